import PyProof.Rows.All
import Wide.All
import OpenK.AllK
import Wide.FinOn
import HandS.ForMost
import HandS.ForExc
import HandS.TupAny
import HandS.Deep
import HandS.IsInst
import HandS.Style
import HandS.Zip
import HandS.Conv
import KE.KDictKeyed
import HandS.Lambda
import HandS.ExcCtx
import HandS.HotCalls
import HandS.ExcIs
import PyProof.ZipIter
import PyProof.Draws
import HandS.TupMul
import KE.KExcIs
import HandS.Text
import HandS.Defaults
import HandS.HeadHook1
import HandS.HeadHook2
import HandS.HeadHook3
import HandS.HeadHook4
import HandS.Words
import HandS.Head0
import HandS.Head1
import HandS.Head2
import HandS.HeadEnd
import HandS.HeadWalk
import KE.GoesMore
import HandS.CallLocal
import KE.KDictDisplayH
import PySem.Challenge.RW_latestops_k07_whole_chains_of_good_stage
set_option Elab.async false
set_option linter.all false
set_option maxRecDepth 100000
set_option maxHeartbeats 2000000
namespace Mi
open PySem PySem.Spec PyProof.Rows L2

/-- what a slot holds: data, a shared object (by its number in the store), a def of the text (by its name), the law's script -/
inductive Val where
  | pv (p : PyData) | loc (l : Nat) | fn (x : Str) | ro (xs : List PyData)
/-- a shared object; tab: the table of code objects at P (in which each lambda bears the name q) is known -/
inductive Ob where
  | lst (xs : List PyData) | dct (kvs : List (PyData × PyData)) | dead | tab (P : Addr) (q : Str)
abbrev Sto := List Ob
abbrev En := List (Option Val)
inductive Res (α : Type) where
  | ok (a : α) (S : Sto) | err (c : Str) (f : Option (Str × PyData)) (S : Sto) | bad
def Res.bind {α β : Type} (r : Res α) (k : α → Sto → Res β) : Res β := match r with
  | .ok a S => k a S
  | .err c f S => .err c f S
  | .bad => .bad
@[simp] theorem Res.bind_ok {α β : Type} (a : α) (S : Sto) (k : α → Sto → Res β) : (Res.ok a S).bind k = k a S := rfl
@[simp] theorem Res.bind_err {α β : Type} (c f S) (k : α → Sto → Res β) : (Res.err c f S).bind k = .err c f S := rfl
@[simp] theorem Res.bind_bad {α β : Type} (k : α → Sto → Res β) : (Res.bad : Res α).bind k = .bad := rfl
abbrev DE := En → Sto → Res Val
/-- the data that a value is now -/
def Val.get : Val → Sto → Option PyData
  | .pv p, _ => some p
  | .loc l, S => match S[l]? with
    | some (.lst xs) => some (.list xs)
    | some (.dct kvs) => some (.dict kvs)
    | _ => none
  | .fn _, _ => none
  | .ro _, _ => none
/-- .. also the script -/
def Val.getR : Val → Sto → Option PyData
  | .ro xs, _ => some (.list xs)
  | x, S => x.get S
@[simp] theorem Val.getR_pv (p : PyData) (S : Sto) : (Val.pv p).getR S = some p := rfl
@[simp] theorem Val.getR_ro (xs : List PyData) (S : Sto) : (Val.ro xs).getR S = some (.list xs) := rfl
@[simp] theorem Val.get_pv (p : PyData) (S : Sto) : (Val.pv p).get S = some p := rfl

/-- a dict's key -/
def keyOf : PyData → Option NestedKey
  | .none => some .none
  | .bool b => some (.num (if b then 1 else 0))
  | .int i => some (.num i)
  | .str x => some (.text x)
  | .tuple xs => (keysOf xs).map .tup
  | .list _ => none
  | .dict _ => none
where keysOf : List PyData → Option (List NestedKey)
  | [] => some []
  | x :: xs => (keyOf x).bind fun k => (keysOf xs).map fun ks => k :: ks

/-- where the shared objects stand; addresses that data keep away from; the tables of code objects -/
structure Mp where
  st : List (Option Addr)
  av : List Addr
  tb : List (Addr × Str) := []
def Mp.has (m : Mp) (a : Addr) : Prop := some a ∈ m.st ∨ a ∈ m.av
/-- a dict's entries, as they stand at its one object -/
structure DX where
  ep : Nat
  l : List (NestedKey × Addr × Value)
def DictO (P : Program) (w : World) (a : Addr) (xs : DX) : HO :=
  .ext fun h => ∃ o es, h.get? a = some o ∧ o.ExactDict ∧ o.data = .dict es xs.ep ∧ es.toList = xs.l.map (entryOfKey (nestedKind P w))

section
variable (P : Program) (w : World) (K : PySem.W.Frag) (m : Mp) (H : Hp)
mutual
/-- the value v is the data p, its lists and dicts apart from the shared objects -/
def Rep : PyData → V → Prop
  | .none, v => v = .non
  | .bool b, v => v = .bl b
  | .int i, v => v = .int i
  | .str x, v => v = .str x
  | .tuple xs, v => ∃ a us, v = .ref a ∧ SqT K H a us ∧ Reps xs us
  | .list xs, v => ∃ a us, v = .ref a ∧ H a = some (.lst us) ∧ ¬ m.has a ∧ Reps xs us
  | .dict kvs, v => ∃ a xs, v = .ref a ∧ ¬ m.has a ∧ H a = some (DictO P w a xs) ∧ (a == sysModules) = false ∧ xs.l.length ≤ sizeLine ∧ (xs.l.map (·.1)).Nodup ∧ RepK kvs xs.l
def Reps : List PyData → List V → Prop
  | [], us => us = []
  | x :: xs, us => ∃ u r, us = u :: r ∧ Rep x u ∧ Reps xs r
def RepK : List (PyData × PyData) → List (NestedKey × Addr × Value) → Prop
  | [], xs => xs = []
  | (k, v) :: kvs, xs => ∃ nk ka u uv r, xs = (nk, ka, u) :: r ∧ keyOf k = some nk ∧ nk.depth ≤ 8 ∧ Rep k (.ref ka) ∧ RelV uv u ∧ Rep v uv ∧ RepK kvs r
end
/-- a shared object at its address -/
def RepO (a : Addr) : Ob → Prop
  | .lst xs => ∃ us, H a = some (.lst us) ∧ Reps P w K m H xs us
  | .dct kvs => ∃ xs, H a = some (DictO P w a xs) ∧ (a == sysModules) = false ∧ xs.l.length ≤ sizeLine ∧ (xs.l.map (·.1)).Nodup ∧ RepK P w K m H kvs xs.l
  | .dead => False
  | .tab _ _ => False
/-- what stands nowhere -/
def Gst : Ob → Prop
  | .dead => True
  | .tab P q => (P, q) ∈ m.tb ∧ ∀ p ∈ m.tb, p.1 = P → p.2 = q
  | _ => False
structure RepS (S : Sto) : Prop where
  len : m.st.length = S.length
  av : ∀ a, a ∈ m.av → some a ∉ m.st ∧ ∃ o, H a = some o ∧ ∀ ps, o ≠ .tbl ps
  tabs : LamX.Tabs m.tb H
  nd : ∀ (i j : Nat) (a : Addr), m.st[i]? = some (some a) → m.st[j]? = some (some a) → i = j
  ob : ∀ (l : Nat) (o : Ob), S[l]? = some o → (Gst m o ∧ m.st[l]? = some none) ∨ ∃ a, m.st[l]? = some (some a) ∧ RepO P w K m H a o
/-- a slot's or an argument's value -/
def RepV (mg : Str → Option Value) : Val → V → Prop
  | .pv p, v => Rep P w K m H p v
  | .loc l, v => l < m.st.length ∧ ∀ a : Addr, m.st[l]? = some (some a) → v = .ref a
  | .fn x, v => ∃ f, mg x = some (.ref f) ∧ v = .ref f
  | .ro xs, v => ∃ a us, v = .ref a ∧ (Rd H a (.lst us) ∧ ¬ m.has a ∨ ∀ H, SqL K H a us) ∧ Reps P w K m H xs us
def RepVs (mg : Str → Option Value) : List Val → List V → Prop
  | [], us => us = []
  | x :: xs, us => ∃ u r, us = u :: r ∧ RepV P w K m H mg x u ∧ RepVs mg xs r
structure RepE (mg : Str → Option Value) (ρ : En) (σ : L2.St) : Prop where
  len : ρ.length = σ.length
  at_ : ∀ (i : Nat) (x : Val), ρ[i]? = some (some x) → ∃ v, σ[i]? = some (some v) ∧ RepV P w K m H mg x v
end

/-- nothing stands at a, or a table -/
def Nd (H : Hp) (a : Addr) : Prop := ∀ o, H a = some o → ∃ ps, o = .tbl ps
theorem Nd.of {H : Hp} {a : Addr} (h : H a = none) : Nd H a := fun o e => by rw [h] at e; cases e
/-- how the abstract heap may go on: all but the shared objects and the tables stay -/
structure Ext (m : Mp) (H : Hp) (m' : Mp) (H' : Hp) : Prop where
  keep : ∀ a o, H a = some o → some a ∉ m.st → (∀ ps, o ≠ .tbl ps) → H' a = some o
  fresh : ∀ a, some a ∈ m'.st → some a ∈ m.st ∨ Nd H a
  frA : ∀ a, a ∈ m'.av → m.has a ∨ Nd H a
  avs : ∀ a, a ∈ m.av → a ∈ m'.av
  tbs : m'.tb = m.tb
  len : m.st.length ≤ m'.st.length
  pre : ∀ (l : Nat) (a : Addr), l < m.st.length → m'.st[l]? = some (some a) → m.st[l]? = some (some a)
theorem Ext.refl (m : Mp) (H : Hp) : Ext m H m H := ⟨fun _ _ h _ _ => h, fun _ h => .inl h, fun _ h => .inl (.inr h), fun _ h => h, rfl, Nat.le_refl _, fun _ _ _ h => h⟩
theorem Ext.gone {m m' : Mp} {H H' : Hp} (a : Ext m H m' H') {x : Addr} (h : Nd H' x) : some x ∈ m.st ∨ Nd H x := by
  by_cases hm : some x ∈ m.st
  · exact .inl hm
  · refine .inr fun o e => ?_
    by_cases t : ∃ ps, o = .tbl ps
    · exact t
    · exact h o (a.keep x o e hm fun ps z => t ⟨ps, z⟩)
theorem Ext.trans {m m1 m2 : Mp} {H H1 H2 : Hp} (a : Ext m H m1 H1) (b : Ext m1 H1 m2 H2) : Ext m H m2 H2 where
  keep := fun x o e n t => by
    have e1 := a.keep x o e n t
    refine b.keep x o e1 (fun h => ?_) t
    rcases a.fresh x h with h | h
    · exact n h
    · obtain ⟨ps, z⟩ := h o e; exact t ps z
  fresh := fun x h => by
    rcases b.fresh x h with h | h
    · exact a.fresh x h
    · exact a.gone h
  frA := fun x h => by
    rcases b.frA x h with (h | h) | h
    · rcases a.fresh x h with h | h
      · exact .inl (.inl h)
      · exact .inr h
    · exact a.frA x h
    · rcases a.gone h with h | h
      · exact .inl (.inl h)
      · exact .inr h
  avs := fun x h => b.avs x (a.avs x h)
  tbs := b.tbs.trans a.tbs
  len := Nat.le_trans a.len b.len
  pre := fun l x hl h => a.pre l x hl (b.pre l x (Nat.lt_of_lt_of_le hl a.len) h)
/-- everything that stood stands, m as it was -/
theorem Ext.same {m : Mp} {H H' : Hp} (h : ∀ a o, H a = some o → H' a = some o) : Ext m H m H' := ⟨fun a o e _ _ => h a o e, fun _ h => .inl h, fun _ h => .inl (.inr h), fun _ h => h, rfl, Nat.le_refl _, fun _ _ _ h => h⟩
theorem Ext.upd {m : Mp} {H : Hp} {p : Addr} {o : HO} (h : H p = none) : Ext m H m (upd H p o) := .same fun a u e => by rw [upd_ne (ne_of_none e h)]; exact e

section
variable {P : Program} {w : World} {K : PySem.W.Frag} {m m' : Mp} {H H' : Hp} {mg : Str → Option Value}
theorem SqT.go {a : Addr} {us : List V} (h : SqT K H a us) (k : ∀ o, H a = some o → (∀ ps, o ≠ .tbl ps) → (∀ xs, o ≠ .lst xs) → (∀ φ, o ≠ .ext φ) → H' a = some o) : SqT K H' a us := by
  rcases h with (h | ⟨o, h⟩) | h
  · exact .inl (.inl (k _ h (fun _ z => by cases z) (fun _ z => by cases z) fun _ z => by cases z))
  · exact .inl (.inr ⟨o, k _ h (fun _ z => by cases z) (fun _ z => by cases z) fun _ z => by cases z⟩)
  · exact .inr h
theorem SqL.go {a : Addr} {us : List V} (h : SqL K H a us) (k : ∀ o, H a = some o → (∀ ps, o ≠ .tbl ps) → H' a = some o) : SqL K H' a us := by
  rcases h with (h | ⟨o, h⟩) | h
  · exact .inl (.inl (k _ h fun _ z => by cases z))
  · exact .inl (.inr ⟨o, k _ h fun _ z => by cases z⟩)
  · exact .inr h
/-- what stands at the shared objects' addresses -/
def MOk (m : Mp) (H : Hp) : Prop := ∀ a, some a ∈ m.st → (∃ us, H a = some (.lst us)) ∨ ∃ φ, H a = some (.ext φ)
theorem RepS.at_ {S : Sto} (r : RepS P w K m H S) {l : Nat} {a : Addr} {o : Ob} (h1 : m.st[l]? = some (some a)) (h2 : S[l]? = some o) : RepO P w K m H a o := by
  rcases r.ob l o h2 with ⟨_, q⟩ | ⟨b, q, z⟩
  · rw [h1] at q; cases q
  · rw [h1] at q; cases q; exact z
theorem RepS.mok {S : Sto} (r : RepS P w K m H S) : MOk m H := fun a h => by
  obtain ⟨l, hl⟩ := List.mem_iff_getElem?.mp h
  have h1 : l < S.length := by rw [← r.len]; exact (List.getElem?_eq_some_iff.mp hl).1
  have q := r.at_ hl (List.getElem?_eq_getElem h1)
  revert q
  cases S[l] with
  | lst xs => rintro ⟨us, e, _⟩; exact .inl ⟨us, e⟩
  | dct kvs => rintro ⟨xs, e, _⟩; exact .inr ⟨_, e⟩
  | dead => exact fun z => z.elim
  | tab _ _ => exact fun z => z.elim
/-- how a reading of data may go on -/
structure Go (P : Program) (w : World) (K : PySem.W.Frag) (m : Mp) (H : Hp) (m' : Mp) (H' : Hp) : Prop where
  tup : ∀ a us, SqT K H a us → SqT K H' a us
  lst : ∀ a us, H a = some (.lst us) → ¬ m.has a → H' a = some (.lst us) ∧ ¬ m'.has a
  dct : ∀ a xs, H a = some (DictO P w a xs) → ¬ m.has a → H' a = some (DictO P w a xs) ∧ ¬ m'.has a
section
variable (g : Go P w K m H m' H')
include g
mutual
theorem Rep.go : ∀ (p : PyData) (v : V), Rep P w K m H p v → Rep P w K m' H' p v
  | .none, _, h => h
  | .bool _, _, h => h
  | .int _, _, h => h
  | .str _, _, h => h
  | .tuple xs, v, ⟨a, us, e, q, r⟩ => ⟨a, us, e, g.tup a us q, Reps.go xs us r⟩
  | .list xs, v, ⟨a, us, e, q, n, r⟩ => ⟨a, us, e, (g.lst a us q n).1, (g.lst a us q n).2, Reps.go xs us r⟩
  | .dict kvs, v, ⟨a, xs, e, n, q, y, z, d, r⟩ => ⟨a, xs, e, (g.dct a xs q n).2, (g.dct a xs q n).1, y, z, d, RepK.go kvs xs.l r⟩
theorem Reps.go : ∀ (ps : List PyData) (us : List V), Reps P w K m H ps us → Reps P w K m' H' ps us
  | [], _, h => h
  | p :: ps, _, ⟨u, r, e, h1, h2⟩ => ⟨u, r, e, Rep.go p u h1, Reps.go ps r h2⟩
theorem RepK.go : ∀ (kvs : List (PyData × PyData)) (xs : List (NestedKey × Addr × Value)), RepK P w K m H kvs xs → RepK P w K m' H' kvs xs
  | [], _, h => h
  | (k, v) :: kvs, _, ⟨nk, ka, u, uv, r, e, e1, e2, h1, e3, h2, h3⟩ => ⟨nk, ka, u, uv, r, e, e1, e2, Rep.go k _ h1, e3, Rep.go v uv h2, RepK.go kvs r h3⟩
end
end
theorem Go.of (mo : MOk m H) (x : Ext m H m' H') : Go P w K m H m' H' where
  tup := fun a us h => SqT.go h fun o e t l y => x.keep a o e (fun z => by
    rcases mo a z with ⟨us, q⟩ | ⟨φ, q⟩
    · rw [q] at e; cases e; exact l _ rfl
    · rw [q] at e; cases e; exact y _ rfl) t
  lst := fun a us h n => ⟨x.keep a _ h (fun z => n (.inl z)) (fun _ z => by cases z), fun z => by
    rcases z with z | z
    · rcases x.fresh a z with z | z
      · exact n (.inl z)
      · obtain ⟨_, y⟩ := z _ h; (first | cases y | (unfold DictO at y; cases y))
    · rcases x.frA a z with z | z
      · exact n z
      · obtain ⟨_, y⟩ := z _ h; (first | cases y | (unfold DictO at y; cases y))⟩
  dct := fun a xs h n => ⟨x.keep a _ h (fun z => n (.inl z)) fun _ z => (by unfold DictO at z; cases z), fun z => by
    rcases z with z | z
    · rcases x.fresh a z with z | z
      · exact n (.inl z)
      · obtain ⟨_, y⟩ := z _ h; (first | cases y | (unfold DictO at y; cases y))
    · rcases x.frA a z with z | z
      · exact n z
      · obtain ⟨_, y⟩ := z _ h; (first | cases y | (unfold DictO at y; cases y))⟩
theorem Go.less (h : ∀ a, m'.has a → m.has a) : Go P w K m H m' H := ⟨fun _ _ q => q, fun _ _ q n => ⟨q, fun z => n (h _ z)⟩, fun _ _ q n => ⟨q, fun z => n (h _ z)⟩⟩
theorem RepV.ext {x : Val} {v : V} (h : RepV P w K m H mg x v) (mo : MOk m H) (e : Ext m H m' H') : RepV P w K m' H' mg x v := by
  cases x with
  | pv p => exact Rep.go (Go.of mo e) p v h
  | loc l => exact ⟨Nat.lt_of_lt_of_le h.1 e.len, fun a q => h.2 a (e.pre l a h.1 q)⟩
  | fn x => exact h
  | ro xs =>
    obtain ⟨a, us, e1, q, r⟩ := h
    refine ⟨a, us, e1, ?_, Reps.go (Go.of mo e) xs us r⟩
    rcases q with ⟨q, n⟩ | q
    · have n' : some a ∉ m.st := fun z => n (.inl z)
      refine .inl ⟨?_, fun z => ?_⟩
      · rcases q with q | ⟨o, q⟩
        · exact .inl (e.keep a _ q n' fun _ z => by cases z)
        · exact .inr ⟨o, e.keep a _ q n' fun _ z => by cases z⟩
      · rcases z with z | z
        · rcases e.fresh a z with z | z
          · exact n' z
          · rcases q with q | ⟨o, q⟩ <;> (obtain ⟨_, y⟩ := z _ q; cases y)
        · rcases e.frA a z with z | z
          · exact n z
          · rcases q with q | ⟨o, q⟩ <;> (obtain ⟨_, y⟩ := z _ q; cases y)
    · exact .inr q
theorem RepVs.ext (mo : MOk m H) (e : Ext m H m' H') : ∀ (xs : List Val) (us : List V), RepVs P w K m H mg xs us → RepVs P w K m' H' mg xs us
  | [], _, h => h
  | x :: xs, _, ⟨u, r, q, h1, h2⟩ => ⟨u, r, q, RepV.ext h1 mo e, RepVs.ext mo e xs r h2⟩
theorem RepE.ext {ρ : En} {σ : L2.St} (h : RepE P w K m H mg ρ σ) (mo : MOk m H) (e : Ext m H m' H') : RepE P w K m' H' mg ρ σ :=
  ⟨h.len, fun i x q => by
    obtain ⟨v, e1, r⟩ := h.at_ i x q
    exact ⟨v, e1, RepV.ext r mo e⟩⟩
/-- the store stays where every tracked thing stays (and new things come) -/
theorem RepS.same {S : Sto} (r : RepS P w K m H S) (k : ∀ a o, H a = some o → H' a = some o) : RepS P w K m H' S where
  len := r.len
  av := fun a h => ⟨(r.av a h).1, let ⟨o, e, n⟩ := (r.av a h).2; ⟨o, k a o e, n⟩⟩
  tabs := r.tabs.ext k
  nd := r.nd
  ob := fun l o h2 => by
    have g : Go P w K m H m H' := Go.of r.mok (Ext.same k)
    rcases r.ob l o h2 with q | ⟨a, h1, q⟩
    · exact .inl q
    refine .inr ⟨a, h1, ?_⟩
    cases o with
    | lst xs => obtain ⟨us, e, q⟩ := q; exact ⟨us, k _ _ e, Reps.go g xs us q⟩
    | dct kvs => obtain ⟨xs, e, y, z, d, q⟩ := q; exact ⟨xs, k _ _ e, y, z, d, RepK.go g kvs xs.l q⟩
    | dead => exact q
    | tab _ _ => exact q
theorem RepS.upd {S : Sto} {p : Addr} {o : HO} (r : RepS P w K m H S) (h : H p = none) : RepS P w K m (upd H p o) S := r.same fun a u e => by rw [upd_ne (ne_of_none e h)]; exact e
theorem RepS.notin {S : Sto} {p : Addr} (r : RepS P w K m H S) (h : H p = none) : ¬ m.has p := fun z => by
  rcases z with z | z
  · rcases r.mok p z with ⟨_, q⟩ | ⟨_, q⟩ <;> rw [h] at q <;> cases q
  · obtain ⟨o, e, _⟩ := (r.av p z).2
    rw [h] at e; cases e
end

/-- the context's fixed parts -/
structure Gx where
  P : Program
  w : World
  K : PySem.W.Frag
  mg : Str → Option Value
abbrev Gx.of (X : Cx) : Gx := ⟨X.prog, X.w, X.K, X.mg⟩
section
variable (G : Gx)
/-- an exception: of the class that the text calls c, with the one field f -/
def RepX (m : Mp) (H : Hp) (c : Str) (f : Option (Str × PyData)) (cls : Value) (d : Option Addr) : Prop :=
  ∃ C, G.mg c = some (.ref C) ∧ cls = .ref C ∧ match f with
    | none => d = none
    | some (n, p) => ∃ dx v, d = some dx ∧ H dx = some (.xd [(n, v)]) ∧ Rep G.P G.w G.K m H p v
def PostE (W : WX) (σ : L2.St) (m : Mp) (H : Hp) (r : Res Val) (Q : VK) : Prop := match r with
  | .ok p S => ∀ m' H' v, Ext m H m' H' → RepS G.P G.w G.K m' H' S → RepV G.P G.w G.K m' H' G.mg p v → Q v H'
  | .err c f S => ∀ m' H' cls d, Ext m H m' H' → RepS G.P G.w G.K m' H' S → RepX G m' H' c f cls d → W cls d σ H'
  | .bad => False
/-- the state's reading -/
structure Rd0 (m : Mp) (ρ : En) (S : Sto) (σ : L2.St) (H : Hp) : Prop where
  e : RepE G.P G.w G.K m H G.mg ρ σ
  s : RepS G.P G.w G.K m H S
/-- an expression's reading: D is what it makes of the slots and the store -/
def tev (W : WX) (D : DE) : TE := fun σ H Q => ∃ m ρ S, Rd0 G m ρ S σ H ∧ PostE G W σ m H (D ρ S) Q
variable {G}
theorem Rd0.ext {m m' : Mp} {ρ : En} {S S' : Sto} {σ : L2.St} {H H' : Hp} (r : Rd0 G m ρ S σ H) (e : Ext m H m' H') (s : RepS G.P G.w G.K m' H' S') : Rd0 G m' ρ S' σ H' := ⟨r.e.ext r.s.mok e, s⟩
theorem PostE.ext {W : WX} {σ : L2.St} {m m' : Mp} {H H' : Hp} {r : Res Val} {Q : VK} (h : PostE G W σ m H r Q) (e : Ext m H m' H') : PostE G W σ m' H' r Q := by
  cases r with
  | ok p S => exact fun m2 H2 v e2 s r => h m2 H2 v (e.trans e2) s r
  | err c f S => exact fun m2 H2 cls d e2 s r => h m2 H2 cls d (e.trans e2) s r
  | bad => exact h
/-- first a part, then what is made of its value -/
theorem PostE.bind {W : WX} {σ : L2.St} {m : Mp} {H : Hp} {r : Res Val} {k : Val → Sto → Res Val} {Q : VK} (h : PostE G W σ m H (r.bind k) Q) :
    PostE G W σ m H r fun v H1 => ∃ m1 S1 p, Ext m H m1 H1 ∧ RepS G.P G.w G.K m1 H1 S1 ∧ RepV G.P G.w G.K m1 H1 G.mg p v ∧ PostE G W σ m1 H1 (k p S1) Q := by
  cases r with
  | ok p S => exact fun m1 H1 v e s rp => ⟨m1, S, p, e, s, rp, PostE.ext h e⟩
  | err c f S => exact h
  | bad => exact h
end
end Mi
set_option maxHeartbeats 2000000
namespace Mi
open PySem PySem.Spec PyProof.Rows L2

section
variable {P : Program} {w : World} {K : PySem.W.Frag} {m m' : Mp} {H H' : Hp} {mg : Str → Option Value}
/-- a value read now: a list or dict may be a shared object -/
def RepT (P : Program) (w : World) (K : PySem.W.Frag) (m : Mp) (H : Hp) : PyData → V → Prop
  | .list xs, v => ∃ a us, v = .ref a ∧ H a = some (.lst us) ∧ Reps P w K m H xs us
  | .dict kvs, v => ∃ a xs, v = .ref a ∧ H a = some (DictO P w a xs) ∧ (a == sysModules) = false ∧ xs.l.length ≤ sizeLine ∧ (xs.l.map (·.1)).Nodup ∧ RepK P w K m H kvs xs.l
  | p, v => Rep P w K m H p v
theorem RepT.of : ∀ {p : PyData} {v : V}, Rep P w K m H p v → RepT P w K m H p v
  | .none, _, h => h
  | .bool _, _, h => h
  | .int _, _, h => h
  | .str _, _, h => h
  | .tuple _, _, h => h
  | .list _, _, ⟨a, us, e, q, _, r⟩ => ⟨a, us, e, q, r⟩
  | .dict _, _, ⟨a, xs, e, _, q⟩ => ⟨a, xs, e, q⟩
theorem peek {S : Sto} {x : Val} {v : V} {p : PyData} (h : RepV P w K m H mg x v) (r : RepS P w K m H S) (e : x.get S = some p) : RepT P w K m H p v := by
  cases x with
  | pv q => simp only [Val.get, Option.some.injEq] at e; subst e; exact .of h
  | fn x => simp [Val.get] at e
  | ro x => simp [Val.get] at e
  | loc l =>
    obtain ⟨hl, ha⟩ := h
    have h1 : l < S.length := by rw [← r.len]; exact hl
    simp only [Val.get, List.getElem?_eq_getElem h1] at e
    rcases r.ob l S[l] (List.getElem?_eq_getElem h1) with ⟨z, _⟩ | ⟨a, ea, q⟩
    · revert z e
      cases S[l] with
      | lst xs => exact fun _ z => z.elim
      | dct xs => exact fun _ z => z.elim
      | dead => exact fun z _ => by cases z
      | tab _ _ => exact fun z _ => by cases z
    · have ev := ha a ea
      subst ev
      revert q e
      cases S[l] with
      | lst xs =>
        intro e q
        simp only [Option.some.injEq] at e; subst e
        obtain ⟨us, h, q⟩ := q
        exact ⟨a, us, rfl, h, q⟩
      | dct kvs =>
        intro e q
        simp only [Option.some.injEq] at e; subst e
        obtain ⟨xs, h, q⟩ := q
        exact ⟨a, xs, rfl, h, q⟩
      | dead => intro e; cases e
      | tab _ _ => intro e; cases e
theorem Reps.length : ∀ {ps : List PyData} {us : List V}, Reps P w K m H ps us → ps.length = us.length
  | [], _, h => by cases h; rfl
  | p :: ps, _, ⟨u, r, e, _, h⟩ => by subst e; simp [Reps.length h]
theorem Reps.get : ∀ {ps : List PyData} {us : List V} (i : Nat) {p : PyData}, Reps P w K m H ps us → ps[i]? = some p → ∃ u, us[i]? = some u ∧ Rep P w K m H p u
  | [], _, _, _, _, e => by simp at e
  | p :: ps, _, 0, _, ⟨u, r, e, h1, h2⟩, q => by simp at q; subst q; subst e; exact ⟨u, rfl, h1⟩
  | p :: ps, _, i + 1, _, ⟨u, r, e, h1, h2⟩, q => by
    subst e
    obtain ⟨z, e1, r1⟩ := Reps.get i h2 (by simpa using q)
    exact ⟨z, by simpa using e1, r1⟩
theorem Reps.append : ∀ {ps qs : List PyData} {us vs : List V}, Reps P w K m H ps us → Reps P w K m H qs vs → Reps P w K m H (ps ++ qs) (us ++ vs)
  | [], _, _, _, h, h' => by cases h; exact h'
  | p :: ps, _, _, _, ⟨u, r, e, h1, h2⟩, h' => by subst e; exact ⟨u, _, rfl, h1, Reps.append h2 h'⟩
theorem Reps.drop : ∀ {ps : List PyData} {us : List V} (n : Nat), Reps P w K m H ps us → Reps P w K m H (ps.drop n) (us.drop n)
  | _, _, 0, h => by simpa using h
  | [], _, n + 1, h => by cases h; simp; rfl
  | p :: ps, _, n + 1, ⟨u, r, e, h1, h2⟩ => by subst e; simpa using Reps.drop n h2
theorem Reps.take : ∀ {ps : List PyData} {us : List V} (n : Nat), Reps P w K m H ps us → Reps P w K m H (ps.take n) (us.take n)
  | _, _, 0, h => by simp; rfl
  | [], _, n + 1, h => by cases h; simp; rfl
  | p :: ps, _, n + 1, ⟨u, r, e, h1, h2⟩ => by subst e; simp only [List.take_succ_cons]; exact ⟨u, _, rfl, h1, Reps.take n h2⟩
mutual
theorem Rep.dp : ∀ (p : PyData) (v : V), p.canLay0 = true → Rep P w K m H p v → Dp K H v p
  | .none, v, _, h => by cases h; exact .non
  | .bool b, v, _, h => by cases h; exact .bl b
  | .int i, v, _, h => by cases h; exact .int i
  | .str x, v, _, h => by cases h; exact .str x
  | .tuple xs, v, c, ⟨a, us, e, q, r⟩ => by subst e; exact .tup q (Reps.dp xs us (by simpa [PyData.canLay0] using c) r)
  | .list xs, v, c, ⟨a, us, e, q, _, r⟩ => by subst e; exact .lst (SqL.of q) (Reps.dp xs us (by simpa [PyData.canLay0] using c) r)
  | .dict _, v, c, _ => by simp [PyData.canLay0] at c
theorem Reps.dp : ∀ (ps : List PyData) (us : List V), PyData.canLayAll0 ps = true → Reps P w K m H ps us → DpAll K H us ps
  | [], _, _, h => by cases h; exact .nil
  | p :: ps, _, c, ⟨u, r, e, h1, h2⟩ => by
    subst e
    simp only [PyData.canLayAll0, Bool.and_eq_true] at c
    exact .cons (Rep.dp p u c.1 h1) (Reps.dp ps r c.2 h2)
end
theorem RepT.dp {p : PyData} {v : V} (c : p.canLay0 = true) (h : RepT P w K m H p v) : Dp K H v p := by
  cases p with
  | list xs => obtain ⟨a, us, e, q, r⟩ := h; subst e; exact .lst (SqL.of q) (Reps.dp xs us (by simpa [PyData.canLay0] using c) r)
  | dict kvs => simp [PyData.canLay0] at c
  | none => exact Rep.dp (P := P) (w := w) (m := m) .none v c h
  | bool b => exact Rep.dp (P := P) (w := w) (m := m) (.bool b) v c h
  | int b => exact Rep.dp (P := P) (w := w) (m := m) (.int b) v c h
  | str b => exact Rep.dp (P := P) (w := w) (m := m) (.str b) v c h
  | tuple b => exact Rep.dp (P := P) (w := w) (m := m) (.tuple b) v c h
end

def shp (p : PyData) : Bool := SeqAt.shaped p
abbrev szOk (n : Nat) : Bool := decide (n ≤ 16777216)
def opAdd : PyData → PyData → Option PyData
  | .int i, .int j => some (.int (i + j))
  | .str x, .str y => if szOk (x.length + y.length) then some (.str (x ++ y)) else none
  | .tuple xs, .tuple ys => if szOk (xs.length + ys.length) then some (.tuple (xs ++ ys)) else none
  | .list xs, .list ys => if szOk (xs.length + ys.length) then some (.list (xs ++ ys)) else none
  | _, _ => none
def opSub : PyData → PyData → Option PyData
  | .int i, .int j => some (.int (i - j))
  | _, _ => none
/- bounds by natAbs: Nat.ble on an unknown stops at once, Int.sub of a large number does not -/
def opMul : PyData → PyData → Option PyData
  | .int i, .int j => if decide (i.natAbs < 2 ^ 64) || decide (j.natAbs < 2 ^ 64) then some (.int (i * j)) else none
  | .list xs, .int k => if decide (k.natAbs < 2 ^ 63) && szOk (xs.length * k.toNat) then some (.list (List.replicate k.toNat xs).flatten) else none
  | .tuple xs, .int k => if decide (k.natAbs ≤ 1000) && decide (xs.length ≤ 1000) then some (.tuple (List.replicate k.toNat xs).flatten) else none
  | _, _ => none
def opDiv : PyData → PyData → Option PyData
  | .int i, .int j => if decide (0 < j) && decide (j < 1073741824) then some (.int (i / j)) else none
  | _, _ => none
def opMod : PyData → PyData → Option PyData
  | .int i, .int j => if 0 < j then some (.int (i % j)) else none
  | _, _ => none
def opPow : PyData → PyData → Option PyData
  | .int i, .int j => if decide (0 ≤ j) && decide (j ≤ 1000000) && decide (i.natAbs < 2 ^ 64) then some (.int (i ^ j.toNat)) else none
  | _, _ => none
def opEq (p q : PyData) : Option PyData := if shp p && shp q then some (.bool (PyData.eqv p q)) else none
def opNe (p q : PyData) : Option PyData := if shp p && shp q then some (.bool (!PyData.eqv p q)) else none
def opLt : PyData → PyData → Option PyData
  | .int i, .int j => some (.bool (decide (i < j)))
  | _, _ => none
def opLe : PyData → PyData → Option PyData
  | .int i, .int j => some (.bool (decide (i ≤ j)))
  | _, _ => none
def opGt : PyData → PyData → Option PyData
  | .int i, .int j => some (.bool (decide (j < i)))
  | _, _ => none
def opGe : PyData → PyData → Option PyData
  | .int i, .int j => some (.bool (decide (j ≤ i)))
  | _, _ => none
/-- a dict's key: a tuple, eight deep at most -/
def dkey : PyData → Option NestedKey
  | .tuple xs => match keyOf (.tuple xs) with
    | some k => if k.depth ≤ 8 then some k else none
    | none => none
  | _ => none
def dfind (kvs : List (PyData × PyData)) (k : NestedKey) : Option PyData := (kvs.find? fun kv => decide (keyOf kv.1 = some k)).map (·.2)
def inOf (p : PyData) : PyData → Option Bool
  | .list ys => if shp p && shp (.list ys) then some (ys.any fun z => PyData.eqv z p) else none
  | .tuple ys => if shp p && shp (.tuple ys) then some (ys.any fun z => PyData.eqv z p) else none
  | .dict kvs => (dkey p).map fun k => (dfind kvs k).isSome
  | _ => none
def opIn (p q : PyData) : Option PyData := (inOf p q).map .bool
def opNotIn (p q : PyData) : Option PyData := (inOf p q).map fun b => .bool !b
def opIs : PyData → PyData → Option PyData
  | p, .none => some (.bool (match p with | .none => true | _ => false))
  | .bool a, .bool b => some (.bool (decide (a = b)))
  | _, _ => none
def opIsNot : PyData → PyData → Option PyData
  | p, .none => some (.bool (match p with | .none => false | _ => true))
  | .bool a, .bool b => some (.bool (!decide (a = b)))
  | _, _ => none

section
variable {X : Cx}
/-- what a rule for an operation asks -/
def rOf (X : Cx) (op : PyData → PyData → Option PyData) : R2 := fun u v H Q => ∃ m S p q z, RepS X.prog X.w X.K m H S ∧ RepT X.prog X.w X.K m H p u ∧ RepT X.prog X.w X.K m H q v ∧ op p q = some z ∧
  ∀ m' H' w, Ext m H m' H' → RepS X.prog X.w X.K m' H' S → Rep X.prog X.w X.K m' H' z w → Q w H'
abbrev Op2 (X : Cx) (f : Value → Value → Sem Value) (op : PyData → PyData → Option PyData) : Prop := OpR X f (rOf X op)
theorem sz_of {n : Nat} (h : szOk n = true) : n ≤ sizeLine := by rw [sizeLine_eq]; exact of_decide_eq_true h

theorem oAdd : Op2 X (binaryOp .Add) opAdd := by
  intro pins s σ H x y v u Q I rx ry ⟨m, S, p, q, z, rs, rp, rq, e, k⟩
  unfold opAdd at e
  split at e
  · cases e; cases rp; cases rq
    exact op_add pins s σ H _ _ v u Q I rx ry ⟨_, _, rfl, rfl, k m H _ (Ext.refl _ _) rs rfl⟩
  · split at e
    · rename_i hz
      cases e; cases rp; cases rq
      exact op_add_str pins s σ H _ _ v u Q I rx ry ⟨_, _, rfl, rfl, sz_of hz, k m H _ (Ext.refl _ _) rs rfl⟩
    · cases e
  · split at e
    · rename_i xs ys hz
      cases e
      obtain ⟨a, us, rfl, ha, ra⟩ := rp
      obtain ⟨b, ws, rfl, hb, rb⟩ := rq
      have la := Reps.length ra
      have lb := Reps.length rb
      have h0 := Reps.append ra rb
      refine op_catA pins s σ H _ _ v u Q I rx ry ⟨a, b, us, ws, rfl, rfl, ha, hb, by rw [← la, ← lb]; exact sz_of hz, fun n => ?_, fun n1 n2 => ?_, fun n1 n2 p hp => ?_⟩
      · subst n; exact k m H _ (Ext.refl _ _) rs ⟨b, ws, rfl, hb, by simpa using h0⟩
      · subst n2; exact k m H _ (Ext.refl _ _) rs ⟨a, us, rfl, ha, by simpa using h0⟩
      · exact k m _ _ (Ext.upd hp) (rs.upd hp) ⟨p, us ++ ws, rfl, SqT.of upd_same, Reps.go (Go.of rs.mok (Ext.upd hp)) _ _ h0⟩
    · cases e
  · split at e
    · rename_i xs ys hz
      cases e
      obtain ⟨a, us, rfl, ha, ra⟩ := rp
      obtain ⟨b, ws, rfl, hb, rb⟩ := rq
      have la := Reps.length ra
      have lb := Reps.length rb
      have h0 := Reps.append ra rb
      exact op_cat pins s σ H _ _ v u Q I rx ry ⟨a, b, us, ws, rfl, rfl, ha, hb, by rw [← la, ← lb]; exact sz_of hz, fun p hp =>
        k m _ _ (Ext.upd hp) (rs.upd hp) ⟨p, us ++ ws, rfl, upd_same, rs.notin hp, Reps.go (Go.of rs.mok (Ext.upd hp)) _ _ h0⟩⟩
    · cases e
  · cases e
theorem oSub : Op2 X (binaryOp .Sub) opSub := by
  intro pins s σ H x y v u Q I rx ry ⟨m, S, p, q, z, rs, rp, rq, e, k⟩
  unfold opSub at e
  split at e
  · cases e; cases rp; cases rq
    exact op_sub pins s σ H _ _ v u Q I rx ry ⟨_, _, rfl, rfl, k m H _ (Ext.refl _ _) rs rfl⟩
  · cases e
theorem oDiv : Op2 X (binaryOp .FloorDiv) opDiv := by
  intro pins s σ H x y v u Q I rx ry ⟨m, S, p, q, z, rs, rp, rq, e, k⟩
  unfold opDiv at e
  split at e
  · split at e
    · rename_i hz
      simp only [Bool.and_eq_true, decide_eq_true_eq] at hz
      cases e; cases rp; cases rq
      exact op_fdiv pins s σ H _ _ v u Q I rx ry ⟨_, _, rfl, rfl, hz, k m H _ (Ext.refl _ _) rs rfl⟩
    · cases e
  · cases e
theorem oMod : Op2 X (binaryOp .Mod) opMod := by
  intro pins s σ H x y v u Q I rx ry ⟨m, S, p, q, z, rs, rp, rq, e, k⟩
  unfold opMod at e
  split at e
  · split at e
    · rename_i hz
      cases e; cases rp; cases rq
      exact op_mod pins s σ H _ _ v u Q I rx ry ⟨_, _, rfl, rfl, hz, k m H _ (Ext.refl _ _) rs rfl⟩
    · cases e
  · cases e
theorem oPow : Op2 X (binaryOp .Pow) opPow := by
  intro pins s σ H x y v u Q I rx ry ⟨m, S, p, q, z, rs, rp, rq, e, k⟩
  unfold opPow at e
  split at e
  · split at e
    · rename_i hz
      simp only [Bool.and_eq_true, decide_eq_true_eq] at hz
      cases e; cases rp; cases rq
      exact op_pow pins s σ H _ _ v u Q I rx ry ⟨_, _, rfl, rfl, ⟨hz.1.1, hz.1.2, hz.2⟩, k m H _ (Ext.refl _ _) rs rfl⟩
    · cases e
  · cases e
theorem oLt : Op2 X (compareOp .Lt) opLt := by
  intro pins s σ H x y v u Q I rx ry ⟨m, S, p, q, z, rs, rp, rq, e, k⟩
  unfold opLt at e
  split at e
  · cases e; cases rp; cases rq
    exact op_lt pins s σ H _ _ v u Q I rx ry ⟨_, _, rfl, rfl, k m H _ (Ext.refl _ _) rs rfl⟩
  · cases e
theorem oLe : Op2 X (compareOp .LtE) opLe := by
  intro pins s σ H x y v u Q I rx ry ⟨m, S, p, q, z, rs, rp, rq, e, k⟩
  unfold opLe at e
  split at e
  · cases e; cases rp; cases rq
    exact op_le pins s σ H _ _ v u Q I rx ry ⟨_, _, rfl, rfl, k m H _ (Ext.refl _ _) rs rfl⟩
  · cases e
theorem oGt : Op2 X (compareOp .Gt) opGt := by
  intro pins s σ H x y v u Q I rx ry ⟨m, S, p, q, z, rs, rp, rq, e, k⟩
  unfold opGt at e
  split at e
  · cases e; cases rp; cases rq
    exact op_gt pins s σ H _ _ v u Q I rx ry ⟨_, _, rfl, rfl, k m H _ (Ext.refl _ _) rs rfl⟩
  · cases e
theorem oGe : Op2 X (compareOp .GtE) opGe := by
  intro pins s σ H x y v u Q I rx ry ⟨m, S, p, q, z, rs, rp, rq, e, k⟩
  unfold opGe at e
  split at e
  · cases e; cases rp; cases rq
    exact op_ge pins s σ H _ _ v u Q I rx ry ⟨_, _, rfl, rfl, k m H _ (Ext.refl _ _) rs rfl⟩
  · cases e
theorem lay_of {p : PyData} (h : shp p = true) : p.canLay0 = true := SeqAt.canLay_of_shaped h
theorem oEq (hu : X.A.units + 64 < cLine) : Op2 X (compareOp .Eq) opEq := by
  intro pins s σ H x y v u Q I rx ry ⟨m, S, p, q, z, rs, rp, rq, e, k⟩
  unfold opEq at e
  split at e
  · rename_i hz
    rw [Bool.and_eq_true] at hz
    cases e
    exact op_eqD hu pins s σ H _ _ v u Q I rx ry ⟨_, _, rp.dp (lay_of hz.1), rq.dp (lay_of hz.2), hz.1, hz.2, k m H _ (Ext.refl _ _) rs rfl⟩
  · cases e
theorem oNe (hu : X.A.units + 64 < cLine) : Op2 X (compareOp .NotEq) opNe := by
  intro pins s σ H x y v u Q I rx ry ⟨m, S, p, q, z, rs, rp, rq, e, k⟩
  unfold opNe at e
  split at e
  · rename_i hz
    rw [Bool.and_eq_true] at hz
    cases e
    exact op_neD hu pins s σ H _ _ v u Q I rx ry ⟨_, _, rp.dp (lay_of hz.1), rq.dp (lay_of hz.2), hz.1, hz.2, k m H _ (Ext.refl _ _) rs rfl⟩
  · cases e
theorem oIs : Op2 X (compareOp .Is) opIs := by
  intro pins s σ H x y v u Q I rx ry ⟨m, S, p, q, z, rs, rp, rq, e, k⟩
  unfold opIs at e
  split at e
  · cases rq
    have e' := Option.some.inj e
    subst e'
    refine op_isN pins s σ H _ _ v u Q I rx ry ⟨rfl, k m H _ (Ext.refl _ _) rs ?_⟩
    cases p with
    | none => cases rp; rfl
    | bool b => cases rp; rfl
    | int b => cases rp; rfl
    | str b => cases rp; rfl
    | tuple b => obtain ⟨a, us, rfl, _⟩ := rp; rfl
    | list b => obtain ⟨a, us, rfl, _⟩ := rp; rfl
    | dict b => obtain ⟨a, us, rfl, _⟩ := rp; rfl
  · cases e; cases rp; cases rq
    exact op_isBl pins s σ H _ _ v u Q I rx ry ⟨_, _, rfl, rfl, k m H _ (Ext.refl _ _) rs rfl⟩
  · cases e
theorem oIsNot : Op2 X (compareOp .IsNot) opIsNot := by
  intro pins s σ H x y v u Q I rx ry ⟨m, S, p, q, z, rs, rp, rq, e, k⟩
  unfold opIsNot at e
  split at e
  · cases rq
    have e' := Option.some.inj e
    subst e'
    refine op_notN pins s σ H _ _ v u Q I rx ry ⟨rfl, k m H _ (Ext.refl _ _) rs ?_⟩
    cases p with
    | none => cases rp; rfl
    | bool b => cases rp; rfl
    | int b => cases rp; rfl
    | str b => cases rp; rfl
    | tuple b => obtain ⟨a, us, rfl, _⟩ := rp; rfl
    | list b => obtain ⟨a, us, rfl, _⟩ := rp; rfl
    | dict b => obtain ⟨a, us, rfl, _⟩ := rp; rfl
  · cases e; cases rp; cases rq
    exact op_notBl pins s σ H _ _ v u Q I rx ry ⟨_, _, rfl, rfl, k m H _ (Ext.refl _ _) rs rfl⟩
  · cases e
end
end Mi
set_option maxHeartbeats 4000000
namespace Mi
open PySem PySem.Spec PyProof.Rows L2
/-- t * n where the same tuple comes back -/
theorem tuple_mul_same (l : Addr) (items : Array Value) (n : Nat) (dd : Option Addr) (sl : Array (Option Value)) (x : Int) (u : Tok) (c0 : (decide (x < -(2 ^ 63)) || decide (x ≥ 2 ^ 63)) = false) (c1 : (items.isEmpty || x == 1) = true) :
    Meets (Builtin.«tuple.__mul__» ⟨[.ref l, .int x u], []⟩) (fun _ R s => s.heap.get? l = some { cls := .type "tuple", dict := dd, data := .seq items n, slots := sl } ∧ R (.ok (.ret (Value.ref l))) s) :=
  .of_wp fun prog w A R s h => by
    obtain ⟨hp, g, d, tk, os⟩ := s
    obtain ⟨hl, h⟩ := h
    have f1 := AutoSeq1.idx_int
    wp_walk using wpAny_loadPart' hl
    repeat (first
      | (refine wpAny_ite_false (decide_eq_false (by rw [c0]; exact Bool.false_ne_true)) ?_; wp_walk using wpAny_loadPart' hl)
      | (refine wpAny_ite_true (decide_eq_true c1) ?_; wp_walk using wpAny_loadPart' hl))
    exact ⟨_, rfl, h⟩
theorem tuple_mul_none (l : Addr) (items : Array Value) (n : Nat) (dd : Option Addr) (sl : Array (Option Value)) (x : Int) (u : Tok) (c0 : (decide (x < -(2 ^ 63)) || decide (x ≥ 2 ^ 63)) = false) (c1 : (items.isEmpty || x == 1) = false) (c2 : (decide (x ≤ 0) || items.isEmpty) = true) :
    Meets (Builtin.«tuple.__mul__» ⟨[.ref l, .int x u], []⟩) (fun _ R s => s.heap.get? l = some { cls := .type "tuple", dict := dd, data := .seq items n, slots := sl } ∧
      R (.ok (.ret (Value.ref s.heap.objs.size))) { s with heap := s.heap.push { cls := Value.type "tuple", data := Data.seq #[] }, toks := s.toks }) :=
  .of_wp fun prog w A R s h => by
    obtain ⟨hp, g, d, tk, os⟩ := s
    obtain ⟨hl, h⟩ := h
    have f1 := AutoSeq1.idx_int
    wp_walk using wpAny_loadPart' hl
    repeat (first
      | (refine wpAny_ite_false (decide_eq_false (by rw [c0]; exact Bool.false_ne_true)) ?_; wp_walk using wpAny_loadPart' hl)
      | (refine wpAny_ite_false (decide_eq_false (by rw [c1]; exact Bool.false_ne_true)) ?_; wp_walk using wpAny_loadPart' hl)
      | (refine wpAny_ite_true (decide_eq_true c2) ?_; wp_walk using wpAny_loadPart' hl))
    exact ⟨_, rfl, h⟩
section
variable {X : Cx}
def rRepA (K : PySem.W.Frag) : R2 := fun x y H Q => ∃ l k xs, x = .ref l ∧ y = .int k ∧ SqT K H l xs ∧ -(2 ^ 63) ≤ k ∧ k ≤ 1000 ∧ xs.length ≤ 1000 ∧ (xs = [] ∨ k = 1 → Q (.ref l) H) ∧ (¬ (xs = [] ∨ k = 1) → ∀ p, H p = none → Q (.ref p) (upd H p (.tup (List.replicate k.toNat xs).flatten)))
theorem op_repA : OpR X (binaryOp .Mult) (rRepA X.K) := by
  intro pins s σ H x y v u Q I rx ry h
  obtain ⟨l, k, xs, rfl, rfl, hT, h1, h2, hz, q1, q2⟩ := h
  by_cases hg : xs ≠ [] ∧ 2 ≤ k
  · exact op_repT pins s σ H _ _ v u Q I rx ry ⟨l, k, xs, rfl, rfl, hT, hg.1, hg.2, h2, hz, q2 (fun z => z.elim hg.1 fun e => by omega)⟩
  cases rx
  obtain ⟨t, rfl⟩ := ry
  obtain ⟨its, r, ⟨⟨cls, dd, data, sl⟩, ho, hc, n, hd⟩, hs⟩ := I.tuple hT
  simp only at hc hd
  subst hc hd
  have hle : its.length = xs.length := r.length.symm
  have hsz0 : its.toArray.size = xs.length := by rw [List.size_toArray, hle]
  have hem : its.toArray.isEmpty = decide (xs = []) := by
    cases its with
    | nil => have : xs = [] := List.eq_nil_of_length_eq_zero (by simpa using hle.symm); simp [this]
    | cons a b =>
      have : xs ≠ [] := fun e => by rw [e] at hle; simp at hle
      simp [this]
  have c0 : (decide (k < -(2 ^ 63)) || decide (k ≥ 2 ^ 63)) = false := by
    rw [decide_eq_false (by omega), decide_eq_false (by omega)] <;> rfl
  by_cases hc1 : xs = [] ∨ k = 1
  · have c1 : (its.toArray.isEmpty || k == 1) = true := by
      rw [hem]
      rcases hc1 with e | e <;> simp [e]
    refine wpAny_binaryOp_repeat_ref (T := "tuple") (U := "int") (by decide) ⟨_, ho, rfl⟩ (fun s' => typeIs_int s' k t) noFill_tuple_mul F.fills_int_mul F.slot_int_rmul repeat_tuple F.slot_int_index.lookup
      (call_meets F.slot_int_rmul (typeIs_int s k t) F.entry_int_rmul (F.args_int_rmul_2 _ _) (int_rmul_tuple k t l its.toArray n dd sl)
        ⟨ho, rfl, ⟨_, ho, rfl⟩, call_meets F.slot_tuple_mul ⟨_, ho, rfl⟩ F.entry_tuple_mul (F.args_tuple_mul_2 _ _) (tuple_mul_same l its.toArray n dd sl k t c0 c1) ⟨ho, ?_⟩⟩)
    exact ⟨.ref l, H, I, rfl, q1 hc1⟩
  · have c1 : (its.toArray.isEmpty || k == 1) = false := by
      rw [hem]
      simp only [not_or] at hc1
      simp [hc1.1, hc1.2]
    have hk : k ≤ 0 := by
      simp only [not_or] at hc1
      by_cases h3 : 2 ≤ k
      · exact absurd ⟨hc1.1, h3⟩ hg
      · omega
    have c2 : (decide (k ≤ 0) || its.toArray.isEmpty) = true := by rw [decide_eq_true hk] <;> rfl
    refine wpAny_binaryOp_repeat_ref (T := "tuple") (U := "int") (by decide) ⟨_, ho, rfl⟩ (fun s' => typeIs_int s' k t) noFill_tuple_mul F.fills_int_mul F.slot_int_rmul repeat_tuple F.slot_int_index.lookup
      (call_meets F.slot_int_rmul (typeIs_int s k t) F.entry_int_rmul (F.args_int_rmul_2 _ _) (int_rmul_tuple k t l its.toArray n dd sl)
        ⟨ho, rfl, ⟨_, ho, rfl⟩, call_meets F.slot_tuple_mul ⟨_, ho, rfl⟩ F.entry_tuple_mul (F.args_tuple_mul_2 _ _) (tuple_mul_none l its.toArray n dd sl k t c0 c1 c2) ⟨ho, ?_⟩⟩)
    have e0 : k.toNat = 0 := by omega
    have q := q2 hc1
    rw [e0] at q
    refine ⟨.ref s.heap.objs.size, _, I.laid (t' := s.toks) (o := .tup []) (fun b ob q => Heap.get?_push_of_some _ q) (Nat.le_refl _) ?_, rfl, q _ (I.hok.fresh (Nat.le_refl _))⟩
    exact ⟨Nat.zero_le _, [], .nil, IsTup.new _ _⟩
theorem Reps.rep {P : Program} {w : World} {K : PySem.W.Frag} {m : Mp} {H : Hp} {ps : List PyData} {us : List V} (h : Reps P w K m H ps us) : ∀ n : Nat, Reps P w K m H (List.replicate n ps).flatten (List.replicate n us).flatten
  | 0 => rfl
  | n + 1 => by rw [List.replicate_succ, List.replicate_succ, List.flatten_cons, List.flatten_cons]; exact Reps.append h (Reps.rep h n)
theorem oMul : Op2 X (binaryOp .Mult) opMul := by
  intro pins s σ H x y v u Q I rx ry ⟨m, S, p, q, z, rs, rp, rq, e, k⟩
  unfold opMul at e
  split at e
  · split at e
    · rename_i hz
      simp only [Bool.or_eq_true, decide_eq_true_eq] at hz
      cases e; cases rp; cases rq
      exact op_mul pins s σ H _ _ v u Q I rx ry ⟨_, _, rfl, rfl, hz.imp (fun z => ⟨by omega, by omega⟩) (fun z => ⟨by omega, by omega⟩), k m H _ (Ext.refl _ _) rs rfl⟩
    · cases e
  · split at e
    · rename_i xs j hz
      simp only [Bool.and_eq_true, decide_eq_true_eq] at hz
      cases e; cases rq
      obtain ⟨a, us, rfl, ha, ra⟩ := rp
      have la := Reps.length ra
      refine op_rep pins s σ H _ _ v u Q I rx ry ⟨a, j, us, rfl, rfl, ha, by have := hz.1; omega, by have := hz.1; omega, by rw [← la, sizeLine_eq]; exact hz.2, fun p hp => ?_⟩
      exact k m _ _ (Ext.upd hp) (rs.upd hp) ⟨p, _, rfl, upd_same, rs.notin hp, Reps.go (Go.of rs.mok (Ext.upd hp)) _ _ (Reps.rep ra _)⟩
    · cases e
  · split at e
    · rename_i xs j hz
      simp only [Bool.and_eq_true, decide_eq_true_eq] at hz
      cases e; cases rq
      obtain ⟨a, us, rfl, ha, ra⟩ := rp
      have la := Reps.length ra
      refine op_repA pins s σ H _ _ v u Q I rx ry ⟨a, j, us, rfl, rfl, ha, by omega, by omega, by rw [← la]; exact hz.2, fun hc => ?_, fun hc p hp => ?_⟩
      · have e0 : (List.replicate j.toNat xs).flatten = xs := by
          rcases hc with e | e
          · have : xs = [] := by cases xs with | nil => rfl | cons a b => rw [e] at la; simp at la
            simp [this]
          · subst e; simp
        rw [e0] at k
        exact k m H _ (Ext.refl _ _) rs ⟨a, us, rfl, ha, ra⟩
      · exact k m _ _ (Ext.upd hp) (rs.upd hp) ⟨p, _, rfl, SqT.of upd_same, Reps.go (Go.of rs.mok (Ext.upd hp)) _ _ (Reps.rep ra _)⟩
    · cases e
  · cases e
theorem shp_tup {ys : List PyData} (h : shp (.tuple ys) = true) : PyData.canLayAll0 ys = true := by simpa [PyData.canLay0] using lay_of h
theorem shp_lst {ys : List PyData} (h : shp (.list ys) = true) : PyData.canLayAll0 ys = true := by simpa [PyData.canLay0] using lay_of h
section
variable {s : Shared} {pins : List (Addr × Obj)} {σ : L2.St} {m : Mp} {H : Hp} (I : Inv X pins σ H s)
include I
mutual
theorem nested_of : ∀ (p : PyData) (v : V) (u : Value) (k : NestedKey), keyOf p = some k → Rep X.prog X.w X.K m H p v → RelV v u → NestedIs s.heap k u
  | .none, v, u, k, e, h, r => by cases h; cases r; simp only [keyOf, Option.some.injEq] at e; subst e; exact .none
  | .bool b, v, u, k, e, h, r => by cases h; cases r; simp only [keyOf, Option.some.injEq] at e; subst e; exact .bool rfl
  | .int i, v, u, k, e, h, r => by cases h; obtain ⟨t, rfl⟩ := r; simp only [keyOf, Option.some.injEq] at e; subst e; exact .int i t
  | .str x, v, u, k, e, h, r => by cases h; obtain ⟨t, rfl⟩ := r; simp only [keyOf, Option.some.injEq] at e; subst e; exact .text x t
  | .tuple xs, v, u, k, e, ⟨a, us, ev, q, r0⟩, r => by
    subst ev
    obtain rfl : u = Value.ref a := r
    simp only [keyOf, Option.map_eq_some_iff] at e
    obtain ⟨ks, e, rfl⟩ := e
    obtain ⟨its, rv, ⟨o, ho, hc, n, hd⟩, _⟩ := I.tuple q
    exact .tup ho hc hd (nested_all xs us its ks e r0 rv)
  | .list xs, v, u, k, e, h, r => by simp [keyOf] at e
  | .dict xs, v, u, k, e, h, r => by simp [keyOf] at e
theorem nested_all : ∀ (ps : List PyData) (us : List V) (its : List Value) (ks : List NestedKey), keyOf.keysOf ps = some ks → Reps X.prog X.w X.K m H ps us → Vals us its → NestedAll s.heap ks its
  | [], us, its, ks, e, h, r => by cases h; cases r; simp only [keyOf.keysOf, Option.some.injEq] at e; subst e; exact .nil
  | p :: ps, us, its, ks, e, ⟨u, us', eu, h1, h2⟩, r => by
    subst eu
    simp only [keyOf.keysOf, Option.bind_eq_some_iff, Option.map_eq_some_iff] at e
    obtain ⟨k, e1, ks', e2, rfl⟩ := e
    cases r with
    | cons r1 r2 => exact .cons (nested_of p u _ k e1 h1 r1) (nested_all ps us' _ ks' e2 h2 r2)
end
theorem keys_of : ∀ {kvs : List (PyData × PyData)} {xs : List (NestedKey × Addr × Value)}, RepK X.prog X.w X.K m H kvs xs → ∀ x ∈ xs, (nestedKind X.prog X.w).is s.heap x.1 x.2.1
  | [], _, r, x, hx => by cases r; cases hx
  | (k, v) :: kvs, _, ⟨nk, ka, u, uv, r, e, e1, e2, h1, e3, h2, h3⟩, x, hx => by
    subst e
    rcases List.mem_cons.mp hx with rfl | hx
    · exact ⟨nested_of I k _ _ nk e1 h1 rfl, e2⟩
    · exact keys_of h3 x hx
theorem dict_of {kvs : List (PyData × PyData)} {xs : DX} {a : Addr} (e : H a = some (DictO X.prog X.w a xs)) (nd : (xs.l.map (·.1)).Nodup) (r : RepK X.prog X.w X.K m H kvs xs.l) :
    s.heap.DictOfH (nestedKind X.prog X.w) a xs.l := by
  obtain ⟨⟨o, es, h1, h2, h3, h4⟩, _⟩ := (show ObjOk X.prog X.w H s.heap a (DictO X.prog X.w a xs) from I.hok a _ e)
  exact ⟨o, es, xs.ep, h1, h2, h3, h4, keys_of I r, nd⟩
end
theorem dfind_at {P : Program} {w : World} {K : PySem.W.Frag} {m : Mp} {H : Hp} (k : NestedKey) : ∀ {kvs : List (PyData × PyData)} {xs : List (NestedKey × Addr × Value)}, RepK P w K m H kvs xs →
    (dfind kvs k = none ∧ valueAt (pairsH xs) k = none) ∨ ∃ p u v, dfind kvs k = some p ∧ valueAt (pairsH xs) k = some u ∧ RelV v u ∧ Rep P w K m H p v
  | [], _, h => by cases h; exact .inl ⟨rfl, rfl⟩
  | (kp, p) :: kvs, _, ⟨nk, ka, u, uv, r, e, e1, e2, h1, e3, h2, h3⟩ => by
    subst e
    by_cases hk : nk = k
    · subst hk
      refine .inr ⟨p, u, uv, ?_, ?_, e3, h2⟩
      · simp [dfind, e1]
      · simp [pairsH, valueAt]
    · have hd : dfind ((kp, p) :: kvs) k = dfind kvs k := by simp [dfind, e1, hk]
      have hv : valueAt (pairsH ((nk, ka, u) :: r)) k = valueAt (pairsH r) k := by simp [pairsH, valueAt, hk]
      rw [hd, hv]
      exact dfind_at k h3
theorem dkey_of {p : PyData} {k : NestedKey} (h : dkey p = some k) : (∃ xs, p = .tuple xs) ∧ keyOf p = some k ∧ k.depth ≤ 8 := by
  cases p with
  | tuple xs =>
    simp only [dkey] at h
    split at h
    · rename_i k' hk
      split at h
      · cases h; exact ⟨⟨_, rfl⟩, hk, by assumption⟩
      · cases h
    · cases h
  | none => cases h
  | bool b => cases h
  | int b => cases h
  | str b => cases h
  | list b => cases h
  | dict b => cases h
theorem oInOf (hu : X.A.units + 65 < cLine) (neg : Bool) : Op2 X (compareOp (if neg then .NotIn else .In)) (fun p q => (inOf p q).map fun b => .bool (if neg then !b else b)) := by
  intro pins s σ H x y v u Q I rx ry ⟨m, S, p, q, z, rs, rp, rq, e, k⟩
  simp only [Option.map_eq_some_iff] at e
  obtain ⟨b, e, rfl⟩ := e
  unfold inOf at e
  split at e
  · split at e
    · rename_i ys hz
      rw [Bool.and_eq_true] at hz
      cases e
      cases neg with
      | false => exact op_inD hu pins s σ H _ _ v u Q I rx ry ⟨_, _, rp.dp (lay_of hz.1), rq.dp (lay_of hz.2), hz.1, hz.2, k m H _ (Ext.refl _ _) rs rfl⟩
      | true => exact op_notInD hu pins s σ H _ _ v u Q I rx ry ⟨_, _, rp.dp (lay_of hz.1), rq.dp (lay_of hz.2), hz.1, hz.2, k m H _ (Ext.refl _ _) rs rfl⟩
    · cases e
  · split at e
    · rename_i ys hz
      rw [Bool.and_eq_true] at hz
      cases e
      obtain ⟨as, r1⟩ := Dp.reads I p x v (rp.dp (lay_of hz.1)) rx
      obtain ⟨bs, r2⟩ := Dp.reads I (.tuple ys) y u (rq.dp (lay_of hz.2)) ry
      have room : X.A.units + 1 + min (PyData.depthAll ys) p.depth < cLine := by
        have h1 := SeqAt.depth_of_shaped hz.1
        have h2 := Nat.min_le_right (PyData.depthAll ys) p.depth
        omega
      cases neg with
      | false => exact SeqAt.in_tuple_reads r2 r1 (shp_tup hz.2) (lay_of hz.1) room ⟨.bl _, H, I, rfl, k m H _ (Ext.refl _ _) rs rfl⟩
      | true => exact SeqAt.notIn_tuple_reads r2 r1 (shp_tup hz.2) (lay_of hz.1) room ⟨.bl _, H, I, rfl, k m H _ (Ext.refl _ _) rs rfl⟩
    · cases e
  · rename_i kvs
    simp only [Option.map_eq_some_iff] at e
    obtain ⟨nk, e, rfl⟩ := e
    obtain ⟨⟨ps, rfl⟩, e1, e2⟩ := dkey_of e
    obtain ⟨ka, us, rfl, hT, hr⟩ := rp
    obtain ⟨a, xs, rfl, hd, hy, hl, nd, rk⟩ := rq
    obtain rfl : v = Value.ref ka := rx
    obtain rfl : u = Value.ref a := ry
    have hm : s.heap.DictKeyed (nestedKind X.prog X.w) a (pairsH xs.l) := ⟨xs.l, dict_of I hd nd rk, rfl⟩
    have hk : (nestedKind X.prog X.w).is s.heap nk ka := ⟨nested_of I (.tuple ps) (.ref ka) _ nk e1 ⟨ka, us, rfl, hT, hr⟩ rfl, e2⟩
    have ev : (valueAt (pairsH xs.l) nk).isSome = (dfind kvs nk).isSome := by
      rcases dfind_at nk rk with ⟨h1, h2⟩ | ⟨p, u, v, h1, h2, _⟩ <;> rw [h1, h2] <;> rfl
    have room : (nestedKind X.prog X.w).room X.A.in1 := by show X.A.units + 1 + 8 < cLine; omega
    cases neg with
    | false => exact in_keyed room hk hy hm ⟨.bl _, H, I.tok _, rfl, by rw [ev]; exact k m H _ (Ext.refl _ _) rs rfl⟩
    | true => exact notIn_keyed room hk hy hm ⟨.bl _, H, I.tok _, rfl, by rw [ev]; exact k m H _ (Ext.refl _ _) rs rfl⟩
  · cases e
theorem oIn (hu : X.A.units + 65 < cLine) : Op2 X (compareOp .In) opIn := oInOf hu false
theorem oNotIn (hu : X.A.units + 65 < cLine) : Op2 X (compareOp .NotIn) opNotIn := oInOf hu true
end
end Mi
set_option maxHeartbeats 4000000
namespace Mi
open PySem PySem.Spec PyProof.Rows L2
abbrev DA := En → Sto → Res (List Val)
abbrev DT := En → Sto → Res Bool

section
variable (G : Gx)
def PostA (W : WX) (σ : L2.St) (m : Mp) (H : Hp) (r : Res (List Val)) (Q : List V → Hp → Prop) : Prop := match r with
  | .ok xs S => ∀ m' H' vs, Ext m H m' H' → RepS G.P G.w G.K m' H' S → RepVs G.P G.w G.K m' H' G.mg xs vs → Q vs H'
  | .err c f S => ∀ m' H' cls d, Ext m H m' H' → RepS G.P G.w G.K m' H' S → RepX G m' H' c f cls d → W cls d σ H'
  | .bad => False
def PostT (W : WX) (σ : L2.St) (m : Mp) (H : Hp) (r : Res Bool) (Q : Bool → Hp → Prop) : Prop := match r with
  | .ok b S => ∀ m' H', Ext m H m' H' → RepS G.P G.w G.K m' H' S → Q b H'
  | .err c f S => ∀ m' H' cls d, Ext m H m' H' → RepS G.P G.w G.K m' H' S → RepX G m' H' c f cls d → W cls d σ H'
  | .bad => False
def tevA (W : WX) (D : DA) : TA := fun σ H Q => ∃ m ρ S, Rd0 G m ρ S σ H ∧ PostA G W σ m H (D ρ S) Q
def tevT (W : WX) (D : DT) : TT := fun σ H Q => ∃ m ρ S, Rd0 G m ρ S σ H ∧ PostT G W σ m H (D ρ S) Q
variable {G}
theorem PostA.ext {W : WX} {σ : L2.St} {m m' : Mp} {H H' : Hp} {r : Res (List Val)} {Q : List V → Hp → Prop} (h : PostA G W σ m H r Q) (e : Ext m H m' H') : PostA G W σ m' H' r Q := by
  cases r with
  | ok p S => exact fun m2 H2 v e2 s r => h m2 H2 v (e.trans e2) s r
  | err c f S => exact fun m2 H2 cls d e2 s r => h m2 H2 cls d (e.trans e2) s r
  | bad => exact h
theorem PostT.ext {W : WX} {σ : L2.St} {m m' : Mp} {H H' : Hp} {r : Res Bool} {Q : Bool → Hp → Prop} (h : PostT G W σ m H r Q) (e : Ext m H m' H') : PostT G W σ m' H' r Q := by
  cases r with
  | ok p S => exact fun m2 H2 e2 s => h m2 H2 (e.trans e2) s
  | err c f S => exact fun m2 H2 cls d e2 s r => h m2 H2 cls d (e.trans e2) s r
  | bad => exact h
/-- a value first, then anything -/
theorem bindE_A {W : WX} {σ : L2.St} {m : Mp} {H : Hp} {r : Res Val} {k : Val → Sto → Res (List Val)} {Q : List V → Hp → Prop} (h : PostA G W σ m H (r.bind k) Q) :
    PostE G W σ m H r fun v H1 => ∃ m1 S1 p, Ext m H m1 H1 ∧ RepS G.P G.w G.K m1 H1 S1 ∧ RepV G.P G.w G.K m1 H1 G.mg p v ∧ PostA G W σ m1 H1 (k p S1) Q := by
  cases r with
  | ok p S => exact fun m1 H1 v e s rp => ⟨m1, S, p, e, s, rp, PostA.ext h e⟩
  | err c f S => exact h
  | bad => exact h
theorem bindE_T {W : WX} {σ : L2.St} {m : Mp} {H : Hp} {r : Res Val} {k : Val → Sto → Res Bool} {Q : Bool → Hp → Prop} (h : PostT G W σ m H (r.bind k) Q) :
    PostE G W σ m H r fun v H1 => ∃ m1 S1 p, Ext m H m1 H1 ∧ RepS G.P G.w G.K m1 H1 S1 ∧ RepV G.P G.w G.K m1 H1 G.mg p v ∧ PostT G W σ m1 H1 (k p S1) Q := by
  cases r with
  | ok p S => exact fun m1 H1 v e s rp => ⟨m1, S, p, e, s, rp, PostT.ext h e⟩
  | err c f S => exact h
  | bad => exact h
theorem bindA_A {W : WX} {σ : L2.St} {m : Mp} {H : Hp} {r : Res (List Val)} {k : List Val → Sto → Res (List Val)} {Q : List V → Hp → Prop} (h : PostA G W σ m H (r.bind k) Q) :
    PostA G W σ m H r fun v H1 => ∃ m1 S1 p, Ext m H m1 H1 ∧ RepS G.P G.w G.K m1 H1 S1 ∧ RepVs G.P G.w G.K m1 H1 G.mg p v ∧ PostA G W σ m1 H1 (k p S1) Q := by
  cases r with
  | ok p S => exact fun m1 H1 v e s rp => ⟨m1, S, p, e, s, rp, PostA.ext h e⟩
  | err c f S => exact h
  | bad => exact h
theorem bindA_E {W : WX} {σ : L2.St} {m : Mp} {H : Hp} {r : Res (List Val)} {k : List Val → Sto → Res Val} {Q : VK} (h : PostE G W σ m H (r.bind k) Q) :
    PostA G W σ m H r fun v H1 => ∃ m1 S1 p, Ext m H m1 H1 ∧ RepS G.P G.w G.K m1 H1 S1 ∧ RepVs G.P G.w G.K m1 H1 G.mg p v ∧ PostE G W σ m1 H1 (k p S1) Q := by
  cases r with
  | ok p S => exact fun m1 H1 v e s rp => ⟨m1, S, p, e, s, rp, PostE.ext h e⟩
  | err c f S => exact h
  | bad => exact h
theorem bindT_E {W : WX} {σ : L2.St} {m : Mp} {H : Hp} {r : Res Bool} {k : Bool → Sto → Res Val} {Q : VK} (h : PostE G W σ m H (r.bind k) Q) :
    PostT G W σ m H r fun b H1 => ∃ m1 S1, Ext m H m1 H1 ∧ RepS G.P G.w G.K m1 H1 S1 ∧ PostE G W σ m1 H1 (k b S1) Q := by
  cases r with
  | ok p S => exact fun m1 H1 e s => ⟨m1, S, e, s, PostE.ext h e⟩
  | err c f S => exact h
  | bad => exact h
theorem bindT_T {W : WX} {σ : L2.St} {m : Mp} {H : Hp} {r : Res Bool} {k : Bool → Sto → Res Bool} {Q : Bool → Hp → Prop} (h : PostT G W σ m H (r.bind k) Q) :
    PostT G W σ m H r fun b H1 => ∃ m1 S1, Ext m H m1 H1 ∧ RepS G.P G.w G.K m1 H1 S1 ∧ PostT G W σ m1 H1 (k b S1) Q := by
  cases r with
  | ok p S => exact fun m1 H1 e s => ⟨m1, S, e, s, PostT.ext h e⟩
  | err c f S => exact h
  | bad => exact h
theorem post_ok {W : WX} {σ : L2.St} {m : Mp} {H : Hp} {x : Val} {S : Sto} {Q : VK} {v : V} (h : PostE G W σ m H (.ok x S) Q) (s : RepS G.P G.w G.K m H S) (r : RepV G.P G.w G.K m H G.mg x v) : Q v H := h m H v (Ext.refl _ _) s r
end
theorem PE.imp {X : Cx} {e : Expr} {t t' : TE} (h : PE X e t) (f : ∀ σ H Q, t' σ H Q → t σ H Q) : PE X e t' := ⟨fun pins s σ H Q I q => h.run pins s σ H Q I (f σ H Q q)⟩
theorem PT.imp {X : Cx} {e : Expr} {t t' : TT} (h : PT X e t) (f : ∀ σ H Q, t' σ H Q → t σ H Q) : PT X e t' := ⟨fun pins s σ H Q I q => h.run pins s σ H Q I (f σ H Q q)⟩
theorem PW.imp {X : Cx} {e : Expr} {t t' : TT} (h : PW X e t) (f : ∀ σ H Q, t' σ H Q → t σ H Q) : PW X e t' := ⟨fun wh pins s σ H Q I q => h.run wh pins s σ H Q I (f σ H Q q)⟩
theorem PA.imp {X : Cx} {e : List Expr} {t t' : TA} (h : PA X e t) (f : ∀ σ H Q, t' σ H Q → t σ H Q) : PA X e t' := ⟨fun pos pins s σ H Q I q => h.run pos pins s σ H Q I (f σ H Q q)⟩

def dC (p : PyData) : DE := fun _ S => .ok (.pv p) S
def dNm (i : Nat) : DE := fun ρ S => match ρ[i]? with
  | some (some x) => .ok x S
  | _ => .bad
def dFn (x : Str) : DE := fun _ S => .ok (.fn x) S
/-- the object of a slot, from now on data -/
def dFz (i : Nat) : DE := fun ρ S => match ρ[i]? with
  | some (some (.loc l)) => match S[l]? with
    | some (.lst xs) => .ok (.pv (.list xs)) (S.set l .dead)
    | some (.dct kvs) => .ok (.pv (.dict kvs)) (S.set l .dead)
    | _ => .bad
  | some (some (.pv p)) => .ok (.pv p) S
  | _ => .bad
def lift2 (op : PyData → PyData → Option PyData) (x y : Val) (S : Sto) : Res Val := match x.get S with
  | some p => match y.get S with
    | some q => match op p q with
      | some z => .ok (.pv z) S
      | none => .bad
    | none => .bad
  | none => .bad
def d2 (op : PyData → PyData → Option PyData) (A B : DE) : DE := fun ρ S => (A ρ S).bind fun x S1 => (B ρ S1).bind fun y S2 => lift2 op x y S2
def pvs : List Val → Option (List PyData)
  | [] => some []
  | .pv p :: xs => (pvs xs).map fun ps => p :: ps
  | _ :: _ => none
def dNil : DA := fun _ S => .ok [] S
def dCons (A : DE) (B : DA) : DA := fun ρ S => (A ρ S).bind fun x S1 => (B ρ S1).bind fun xs S2 => .ok (x :: xs) S2
def dTup (A : DA) : DE := fun ρ S => (A ρ S).bind fun xs S1 => match pvs xs with
  | some ps => if szOk ps.length then .ok (.pv (.tuple ps)) S1 else .bad
  | none => .bad
def dLst (A : DA) : DE := fun ρ S => (A ρ S).bind fun xs S1 => match pvs xs with
  | some ps => if szOk ps.length then .ok (.pv (.list ps)) S1 else .bad
  | none => .bad
/-- a list display that is a shared object -/
def dNew (A : DA) : DE := fun ρ S => (A ρ S).bind fun xs S1 => match pvs xs with
  | some ps => if szOk ps.length then .ok (.loc S1.length) (S1 ++ [.lst ps]) else .bad
  | none => .bad
def blOf (x : Val) (S : Sto) : Res Bool := match x with
  | .pv (.bool b) => .ok b S
  | _ => .bad
def dTst (A : DE) : DT := fun ρ S => (A ρ S).bind blOf
def dNotT (A : DT) : DT := fun ρ S => (A ρ S).bind fun b S1 => .ok (!b) S1
def dAndT (A B : DT) : DT := fun ρ S => (A ρ S).bind fun b S1 => if b = true then B ρ S1 else .ok false S1
def dOrT (A B : DT) : DT := fun ρ S => (A ρ S).bind fun b S1 => if b = true then .ok true S1 else B ρ S1
def dIf (C : DT) (A B : DE) : DE := fun ρ S => (C ρ S).bind fun b S1 => if b = true then A ρ S1 else B ρ S1
def dNot (A : DE) : DE := fun ρ S => (A ρ S).bind fun x S1 => (blOf x S1).bind fun b S2 => .ok (.pv (.bool !b)) S2
def dAnd (A B : DE) : DE := fun ρ S => (A ρ S).bind fun x S1 => (blOf x S1).bind fun b S2 => if b = true then B ρ S2 else .ok (.pv (.bool false)) S2
def dOr (A B : DE) : DE := fun ρ S => (A ρ S).bind fun x S1 => (blOf x S1).bind fun b S2 => if b = true then .ok (.pv (.bool true)) S2 else B ρ S2
def dCh (f g : PyData → PyData → Option PyData) (A B C : DE) : DE := fun ρ S => (A ρ S).bind fun x S1 => (B ρ S1).bind fun y S2 => (lift2 f x y S2).bind fun z S3 => (blOf z S3).bind fun b S4 =>
  if b = true then (C ρ S4).bind fun c S5 => lift2 g y c S5 else .ok (.pv (.bool false)) S4

section
variable {X : Cx} {W : WX} {pos : Pos} {A B C : DE} {a b c : Expr}
abbrev PEv (X : Cx) (W : WX) (e : Expr) (D : DE) : Prop := PE X e (tev (Gx.of X) W D)
abbrev PTv (X : Cx) (W : WX) (e : Expr) (D : DT) : Prop := PT X e (tevT (Gx.of X) W D)
abbrev PWv (X : Cx) (W : WX) (e : Expr) (D : DT) : Prop := PW X e (tevT (Gx.of X) W D)
abbrev PAv (X : Cx) (W : WX) (e : List Expr) (D : DA) : Prop := PA X e (tevA (Gx.of X) W D)
theorem r_int {i j} : PEv X W (.Constant (.int i) j pos) (dC (.int i)) := PE.imp pe_int fun σ H Q ⟨m, ρ, S, R, h⟩ => post_ok h R.s rfl
theorem r_bl {b j} : PEv X W (.Constant (.bool b) j pos) (dC (.bool b)) := PE.imp pe_bl fun σ H Q ⟨m, ρ, S, R, h⟩ => post_ok h R.s rfl
theorem r_non {j} : PEv X W (.Constant .none j pos) (dC .none) := PE.imp pe_non fun σ H Q ⟨m, ρ, S, R, h⟩ => post_ok h R.s rfl
theorem r_str {x j} : PEv X W (.Constant (.str x) j pos) (dC (.str x)) := PE.imp pe_str fun σ H Q ⟨m, ρ, S, R, h⟩ => post_ok h R.s rfl
theorem r_nm (i : Nat) {x : Str} (hN : X.N[i]? = some x := by rfl) (hv : Vis X.env.scope x := by first | exact Or.inl rfl | exact Or.inr (Or.inl rfl) | exact Or.inr (Or.inr rfl)) (hd : (x == ("__debug__" : Str)) = false := by decide)
    (hcd : (x == ("__classdict__" : Str)) = false := by decide) : PEv X W (.Name x pos) (dNm i) := PE.imp (pe_var (i := i) hN hv hd hcd) fun σ H Q ⟨m, ρ, S, R, h⟩ => by
  unfold dNm at h
  cases e : ρ[i]? with
  | none => rw [e] at h; exact h.elim
  | some o =>
    cases o with
    | none => rw [e] at h; exact h.elim
    | some x =>
      rw [e] at h
      obtain ⟨v, e1, r⟩ := R.e.at_ i x e
      exact ⟨v, e1, post_ok h R.s r⟩
theorem r_fn {x : Str} {f : Addr} (hg : Gl X x) (hm : X.mg x = some (.ref f)) (hd : (x == ("__debug__" : Str)) = false := by decide) : PEv X W (.Name x pos) (dFn x) :=
  PE.imp (pe_glob (v := .ref f) hg hm rfl hd) fun σ H Q ⟨m, ρ, S, R, h⟩ => post_ok h R.s ⟨f, hm, rfl⟩
theorem r_gint {x : Str} {i : Int} {t : Tok} (hg : Gl X x) (hm : X.mg x = some (.int i t)) (hd : (x == ("__debug__" : Str)) = false := by decide) : PEv X W (.Name x pos) (dC (.int i)) :=
  PE.imp (pe_glob (v := .int i) hg hm ⟨t, rfl⟩ hd) fun σ H Q ⟨m, ρ, S, R, h⟩ => post_ok h R.s rfl
/-- the semantic heart of two-place operations -/
theorem lift2_rOf {op : PyData → PyData → Option PyData} {x y : Val} {S : Sto} {m : Mp} {H : Hp} {u v : V} {Q : VK} {σ : L2.St} (rs : RepS X.prog X.w X.K m H S) (rx : RepV X.prog X.w X.K m H X.mg x u) (ry : RepV X.prog X.w X.K m H X.mg y v)
    (h : PostE (Gx.of X) W σ m H (lift2 op x y S) Q) : rOf X op u v H Q := by
  unfold lift2 at h
  split at h
  · rename_i p hp
    split at h
    · rename_i q hq
      split at h
      · rename_i z hz
        exact ⟨m, S, p, q, z, rs, peek rx rs hp, peek ry rs hq, hz, fun m' H' w e s r => h m' H' w e s r⟩
      · exact h.elim
    · exact h.elim
  · exact h.elim
theorem d2_top {op : PyData → PyData → Option PyData} {σ : L2.St} {H : Hp} {Q : VK} (h : tev (Gx.of X) W (d2 op A B) σ H Q) : tOp (rOf X op) (tev (Gx.of X) W A) (tev (Gx.of X) W B) σ H Q := by
  obtain ⟨m, ρ, S, R, h⟩ := h
  have h1 := PostE.bind (G := Gx.of X) h
  refine ⟨m, ρ, S, R, ?_⟩
  revert h1
  cases A ρ S with
  | ok x S1 =>
    intro h1 m1 H1 u e s r
    obtain ⟨m1', S1', p, e', s', r', h2⟩ := h1 m1 H1 u e s r
    have h2' := PostE.bind (G := Gx.of X) h2
    refine ⟨m1', ρ, S1', R.ext e' s', ?_⟩
    revert h2'
    cases B ρ S1' with
    | ok y S2 =>
      intro h2' m2 H2 v e2 s2 r2
      obtain ⟨m2', S2', q, e3, s3, r3, h3⟩ := h2' m2 H2 v e2 s2 r2
      exact lift2_rOf s3 (RepV.ext r' s'.mok e3) r3 h3
    | err c f S => exact fun z => z
    | bad => exact fun z => z
  | err c f S => exact fun z => z
  | bad => exact fun z => z
theorem r_bin {op : Operator} {f : PyData → PyData → Option PyData} (ho : Op2 X (binaryOp op) f) (ha : PEv X W a A) (hb : PEv X W b B) : PEv X W (.BinOp a op b pos) (d2 f A B) := PE.imp (pe_op ho ha hb) fun σ H Q h => d2_top h
theorem r_cmp {op : CmpOp} {f : PyData → PyData → Option PyData} (ho : Op2 X (compareOp op) f) (ha : PEv X W a A) (hb : PEv X W b B) (hm : behindInMarks op b = false) : PEv X W (.Compare a [op] [b] pos) (d2 f A B) :=
  PE.imp (pe_cmpR ho ha hb hm) fun σ H Q h => d2_top h
end
end Mi
set_option maxHeartbeats 4000000
namespace Mi
open PySem PySem.Spec PyProof.Rows L2
section
variable {G : Gx} {P : Program} {w : World} {K : PySem.W.Frag} {m m' : Mp} {H H' : Hp} {mg : Str → Option Value}
theorem pvs_reps : ∀ {xs : List Val} {us : List V} {ps : List PyData}, pvs xs = some ps → RepVs P w K m H mg xs us → Reps P w K m H ps us
  | [], _, _, e, h => by cases e; cases h; rfl
  | .pv p :: xs, _, _, e, ⟨u, r, eu, h1, h2⟩ => by
    simp only [pvs, Option.map_eq_some_iff] at e
    obtain ⟨ps, e, rfl⟩ := e
    exact ⟨u, r, eu, h1, pvs_reps e h2⟩
  | .loc _ :: _, _, _, e, _ => by cases e
  | .fn _ :: _, _, _, e, _ => by cases e
  | .ro _ :: _, _, _, e, _ => by cases e
/-- one shared object more -/
abbrev Mp.push (m : Mp) (p : Addr) : Mp := { m with st := m.st ++ [some p] }
theorem Ext.new1 {p : Addr} {ho : HO} (hp : H p = none) (mo : MOk m H) : Ext m H (m.push p) (L2.upd H p ho) :=
  ⟨fun a o e _ _ => by rw [upd_ne (ne_of_none e hp)]; exact e, fun a h => by
      rcases List.mem_append.mp h with h | h
      · exact .inl h
      · simp at h; subst h; exact .inr (.of hp), fun a h => .inl (.inr h), fun a h => h, rfl, by simp, fun l a hl h => by rwa [List.getElem?_append_left hl] at h⟩
theorem RepS.new {S : Sto} {p : Addr} {o : Ob} {ho : HO} (r : RepS P w K m H S) (hp : H p = none) (q : RepO P w K (m.push p) (L2.upd H p ho) p o) :
    RepS P w K (m.push p) (L2.upd H p ho) (S ++ [o]) := by
  have ex : Ext m H (m.push p) (L2.upd H p ho) := Ext.new1 hp r.mok
  have np := r.notin hp
  have g := Go.of (P := P) (w := w) (K := K) r.mok ex
  have np' : some p ∉ m.st := fun z => np (.inl z)
  refine ⟨by simp [r.len], fun a ha => ⟨fun z => ?_, ?_⟩, r.tabs.ext fun a o e => by rw [upd_ne (ne_of_none e hp)]; exact e, fun i j a hi hj => ?_, fun l o' e => ?_⟩
  · rcases List.mem_append.mp z with z | z
    · exact (r.av a ha).1 z
    · simp at z; subst z; exact np (.inr ha)
  · obtain ⟨o, e, n⟩ := (r.av a ha).2
    exact ⟨o, by rw [upd_ne (ne_of_none e hp)]; exact e, n⟩
  · have hin : ∀ (i : Nat) (a : Addr), (m.st ++ [some p])[i]? = some (some a) → (i < m.st.length ∧ m.st[i]? = some (some a)) ∨ (i = m.st.length ∧ a = p) := fun i a h => by
      by_cases hi : i < m.st.length
      · rw [List.getElem?_append_left hi] at h; exact .inl ⟨hi, h⟩
      · rw [List.getElem?_append_right (by omega)] at h
        have : i - m.st.length = 0 := by
          by_cases z : i - m.st.length = 0
          · exact z
          · rw [List.getElem?_eq_none (by simp; omega)] at h; cases h
        rw [this] at h; simp at h
        exact .inr ⟨by omega, h.symm⟩
    rcases hin i a hi with ⟨h1, h2⟩ | ⟨h1, h2⟩ <;> rcases hin j a hj with ⟨h3, h4⟩ | ⟨h3, h4⟩
    · exact r.nd i j a h2 h4
    · subst h4; exact absurd (List.mem_of_getElem? h2) np'
    · subst h2; exact absurd (List.mem_of_getElem? h4) np'
    · omega
  · by_cases hl' : l < S.length
    · rw [List.getElem?_append_left hl'] at e
      have hml : l < m.st.length := by rw [r.len]; exact hl'
      rw [show (m.push p).st[l]? = m.st[l]? from List.getElem?_append_left hml]
      rcases r.ob l o' e with q' | ⟨a, ea, q'⟩
      · exact .inl q'
      · refine .inr ⟨a, ea, ?_⟩
        have nap : a ≠ p := fun z => np' (z ▸ List.mem_of_getElem? ea)
        cases o' with
        | lst xs => obtain ⟨us, e1, q'⟩ := q'; exact ⟨us, by rw [upd_ne nap]; exact e1, Reps.go g xs us q'⟩
        | dct kvs => obtain ⟨xs, e1, y, z, d, q'⟩ := q'; exact ⟨xs, by rw [upd_ne nap]; exact e1, y, z, d, RepK.go g kvs xs.l q'⟩
        | dead => exact q'
        | tab _ _ => exact q'
    · have e0 : l = S.length := by
        have : l < (S ++ [o]).length := (List.getElem?_eq_some_iff.mp e).1
        simp at this; omega
      subst e0
      rw [List.getElem?_append_right (Nat.le_refl _)] at e
      simp at e
      subst e
      exact .inr ⟨p, by rw [← r.len]; simp, q⟩
theorem RepVs.length : ∀ {xs : List Val} {us : List V}, RepVs P w K m H mg xs us → xs.length = us.length
  | [], _, h => by cases h; rfl
  | x :: xs, _, ⟨u, r, e, _, h⟩ => by subst e; simp [RepVs.length h]
theorem RepV.pvT {p : PyData} {v : V} (h : RepV P w K m H mg (.pv p) v) : Rep P w K m H p v := h
end
section
variable {X : Cx} {W : WX} {pos : Pos} {A B C : DE} {a b c : Expr} {es : List Expr} {As : DA} {T T' : DT}
theorem r_nil : PAv X W [] dNil := PA.imp pa_nil fun σ H Q ⟨m, ρ, S, R, h⟩ => h m H [] (Ext.refl _ _) R.s rfl
theorem r_cons (ha : PEv X W a A) (hr : PAv X W es As) (hs : starEach (a :: es) X.env = (false, eval a X.env) :: starEach es X.env := by rfl) : PAv X W (a :: es) (dCons A As) := PA.imp (pa_cons ha hr hs) fun σ H Q ⟨m, ρ, S, R, h⟩ => by
  have h1 := bindE_A (G := Gx.of X) h
  refine ⟨m, ρ, S, R, ?_⟩
  revert h1
  cases A ρ S with
  | err c f S => exact fun z => z
  | bad => exact fun z => z
  | ok x S1 =>
    intro h1 m1 H1 u e s r
    obtain ⟨m1', S1', p, e', s', r', h2⟩ := h1 m1 H1 u e s r
    have h2' := bindA_A (G := Gx.of X) h2
    refine ⟨m1', ρ, S1', R.ext e' s', ?_⟩
    revert h2'
    cases As ρ S1' with
    | err c f S => exact fun z => z
    | bad => exact fun z => z
    | ok y S2 =>
      intro h2' m2 H2 v e2 s2 r2
      obtain ⟨m2', S2', q, e3, s3, r3, h3⟩ := h2' m2 H2 v e2 s2 r2
      exact h3 m2' H2 _ (Ext.refl _ _) s3 ⟨u, v, rfl, RepV.ext r' s'.mok e3, r3⟩
/-- what is made of a list of values -/
theorem tevA_top {k : List Val → Sto → Res Val} {As : DA} {σ : L2.St} {H : Hp} {Q : VK} (h : tev (Gx.of X) W (fun ρ S => (As ρ S).bind k) σ H Q) :
    tevA (Gx.of X) W As σ H fun us H1 => ∃ m1 S1 xs, RepS X.prog X.w X.K m1 H1 S1 ∧ RepVs X.prog X.w X.K m1 H1 X.mg xs us ∧ PostE (Gx.of X) W σ m1 H1 (k xs S1) Q := by
  obtain ⟨m, ρ, S, R, h⟩ := h
  have h1 := bindA_E (G := Gx.of X) h
  refine ⟨m, ρ, S, R, ?_⟩
  revert h1
  cases As ρ S with
  | err c f S => exact fun z => z
  | bad => exact fun z => z
  | ok x S1 =>
    intro h1 m1 H1 u e s r
    obtain ⟨m1', S1', p, e', s', r', h2⟩ := h1 m1 H1 u e s r
    exact ⟨m1', S1', p, s', r', h2⟩
/-- what is made of a value -/
theorem tev_top {k : Val → Sto → Res Val} {A : DE} {σ : L2.St} {H : Hp} {Q : VK} (h : tev (Gx.of X) W (fun ρ S => (A ρ S).bind k) σ H Q) :
    tev (Gx.of X) W A σ H fun u H1 => ∃ m1 S1 x, RepS X.prog X.w X.K m1 H1 S1 ∧ RepV X.prog X.w X.K m1 H1 X.mg x u ∧ PostE (Gx.of X) W σ m1 H1 (k x S1) Q := by
  obtain ⟨m, ρ, S, R, h⟩ := h
  have h1 := PostE.bind (G := Gx.of X) h
  refine ⟨m, ρ, S, R, ?_⟩
  revert h1
  cases A ρ S with
  | err c f S => exact fun z => z
  | bad => exact fun z => z
  | ok x S1 =>
    intro h1 m1 H1 u e s r
    obtain ⟨m1', S1', p, e', s', r', h2⟩ := h1 m1 H1 u e s r
    exact ⟨m1', S1', p, s', r', h2⟩
theorem r_tup {x1} (h : PAv X W es As) : PEv X W (.Tuple es x1 pos) (dTup As) := PE.imp (pe_tup h) fun σ H Q h => by
  have h1 := tevA_top h
  obtain ⟨m, ρ, S, R, h1⟩ := h1
  refine ⟨m, ρ, S, R, ?_⟩
  revert h1
  cases As ρ S with
  | err c f S => exact fun z => z
  | bad => exact fun z => z
  | ok x S1 =>
    intro h1 m1 H1 us e s r
    obtain ⟨m2, S2, xs, s2, r2, h2⟩ := h1 m1 H1 us e s r
    split at h2
    · rename_i ps hp
      split at h2
      · rename_i hz
        have q := pvs_reps hp r2
        exact ⟨by rw [← Reps.length q]; exact sz_of hz, fun p np => h2 m2 _ _ (Ext.upd np) (s2.upd np) ⟨p, us, rfl, SqT.of upd_same, Reps.go (Go.of s2.mok (Ext.upd np)) _ _ q⟩⟩
      · exact h2.elim
    · exact h2.elim
theorem r_lst (h : PAv X W es As) : PEv X W (.List es pos) (dLst As) := PE.imp (pe_lst h) fun σ H Q h => by
  have h1 := tevA_top h
  obtain ⟨m, ρ, S, R, h1⟩ := h1
  refine ⟨m, ρ, S, R, ?_⟩
  revert h1
  cases As ρ S with
  | err c f S => exact fun z => z
  | bad => exact fun z => z
  | ok x S1 =>
    intro h1 m1 H1 us e s r
    obtain ⟨m2, S2, xs, s2, r2, h2⟩ := h1 m1 H1 us e s r
    split at h2
    · rename_i ps hp
      split at h2
      · rename_i hz
        have q := pvs_reps hp r2
        exact ⟨by rw [← Reps.length q]; exact sz_of hz, fun p np => h2 m2 _ _ (Ext.upd np) (s2.upd np) ⟨p, us, rfl, upd_same, s2.notin np, Reps.go (Go.of s2.mok (Ext.upd np)) _ _ q⟩⟩
      · exact h2.elim
    · exact h2.elim
/-- a list display that will be changed -/
theorem r_new (h : PAv X W es As) : PEv X W (.List es pos) (dNew As) := PE.imp (pe_lst h) fun σ H Q h => by
  have h1 := tevA_top h
  obtain ⟨m, ρ, S, R, h1⟩ := h1
  refine ⟨m, ρ, S, R, ?_⟩
  revert h1
  cases As ρ S with
  | err c f S => exact fun z => z
  | bad => exact fun z => z
  | ok x S1 =>
    intro h1 m1 H1 us e s r
    obtain ⟨m2, S2, xs, s2, r2, h2⟩ := h1 m1 H1 us e s r
    split at h2
    · rename_i ps hp
      split at h2
      · rename_i hz
        have q := pvs_reps hp r2
        refine ⟨by rw [← Reps.length q]; exact sz_of hz, fun p np => ?_⟩
        have ex : Ext m2 H1 (m2.push p) (upd H1 p (.lst us)) := (Ext.new1 np s2.mok)
        have n := s2.new (o := .lst ps) np ⟨us, upd_same, Reps.go (Go.of s2.mok ex) _ _ q⟩
        exact h2 _ _ _ ex n ⟨by show _ < (m2.st ++ [some p]).length; rw [List.length_append, s2.len]; simp, fun a ha => by have ha : (m2.st ++ [some p])[S2.length]? = some (some a) := ha; rw [← s2.len] at ha; simp at ha; rw [ha]⟩
      · exact h2.elim
    · exact h2.elim
end
end Mi
set_option maxHeartbeats 4000000
namespace Mi
open PySem PySem.Spec PyProof.Rows L2
section
variable {X : Cx} {W : WX} {pos : Pos} {A B C : DE} {a b c : Expr} {es rest : List Expr} {As : DA} {T T' : DT}
/-- what is made of a value, as a test -/
theorem tevV_topT {k : Val → Sto → Res Bool} {A : DE} {σ : L2.St} {H : Hp} {Q : Bool → Hp → Prop} (h : tevT (Gx.of X) W (fun ρ S => (A ρ S).bind k) σ H Q) :
    tev (Gx.of X) W A σ H fun u H1 => ∃ m1 S1 x, RepS X.prog X.w X.K m1 H1 S1 ∧ RepV X.prog X.w X.K m1 H1 X.mg x u ∧ PostT (Gx.of X) W σ m1 H1 (k x S1) Q := by
  obtain ⟨m, ρ, S, R, h⟩ := h
  have h1 := bindE_T (G := Gx.of X) h
  refine ⟨m, ρ, S, R, ?_⟩
  revert h1
  cases A ρ S with
  | err c f S => exact fun z => z
  | bad => exact fun z => z
  | ok x S1 =>
    intro h1 m1 H1 u e s r
    obtain ⟨m1', S1', p, e', s', r', h2⟩ := h1 m1 H1 u e s r
    exact ⟨m1', S1', p, s', r', h2⟩
theorem tev_get {A : DE} {σ : L2.St} {H : Hp} {Q Q' : VK} (h : tev (Gx.of X) W A σ H Q) (f : ∀ v H', Q v H' → Q' v H') : tev (Gx.of X) W A σ H Q' := by
  obtain ⟨m, ρ, S, R, h⟩ := h
  refine ⟨m, ρ, S, R, ?_⟩
  revert h
  cases A ρ S with
  | err c f S => exact fun z => z
  | bad => exact fun z => z
  | ok x S1 => exact fun h m1 H1 u e s r => f _ _ (h m1 H1 u e s r)
theorem blOf_T {x : Val} {S : Sto} {σ : L2.St} {m : Mp} {H : Hp} {Q : Bool → Hp → Prop} {v : V} (s : RepS X.prog X.w X.K m H S) (r : RepV X.prog X.w X.K m H X.mg x v) (h : PostT (Gx.of X) W σ m H (blOf x S) Q) : ∃ b, v = .bl b ∧ Q b H := by
  unfold blOf at h
  split at h
  · exact ⟨_, r, h m H (Ext.refl _ _) s⟩
  · exact h.elim
theorem blOf_E {x : Val} {S : Sto} {k : Bool → Sto → Res Val} {σ : L2.St} {m : Mp} {H : Hp} {Q : VK} {v : V} (r : RepV X.prog X.w X.K m H X.mg x v) (h : PostE (Gx.of X) W σ m H ((blOf x S).bind k) Q) : ∃ b, v = .bl b ∧ x = .pv (.bool b) ∧ PostE (Gx.of X) W σ m H (k b S) Q := by
  unfold blOf at h
  split at h
  · exact ⟨_, r, rfl, h⟩
  · exact h.elim
/-- a value as a test -/
theorem q_val (h : PEv X W a A) (he : ∀ whole, isTrue a X.env whole = (do let v ← whole; standAt a.pos; holding [v] (truthy v)) := by intro _; rfl) : PTv X W a (dTst A) := PT.imp (pt_val h he) fun σ H Q q => tev_get (tevV_topT q) fun v H' ⟨m1, S1, x, s1, r1, h1⟩ => blOf_T s1 r1 h1
theorem q_not (h : PTv X W a T) : PTv X W (.UnaryOp .Not a pos) (dNotT T) := PT.imp (pt_not h) fun σ H Q ⟨m, ρ, S, R, h⟩ => by
  have h1 := bindT_T (G := Gx.of X) h
  refine ⟨m, ρ, S, R, ?_⟩
  revert h1
  cases T ρ S with
  | err c f S => exact fun z => z
  | bad => exact fun z => z
  | ok x S1 =>
    intro h1 m1 H1 e s
    obtain ⟨m1', S1', e', s', h2⟩ := h1 m1 H1 e s
    exact h2 m1' H1 (Ext.refl _ _) s'
theorem w_and1 (h : PTv X W a T) : PWv X W (.BoolOp .And [a] pos) T := pw_and1 h
theorem w_or1 (h : PTv X W a T) : PWv X W (.BoolOp .Or [a] pos) T := pw_or1 h
theorem dT_top {k : Bool → Sto → Res Bool} {σ : L2.St} {H : Hp} {Q : Bool → Hp → Prop} (h : tevT (Gx.of X) W (fun ρ S => (T ρ S).bind k) σ H Q) :
    tevT (Gx.of X) W T σ H fun b H1 => ∃ m1 S1 ρ, Rd0 (Gx.of X) m1 ρ S1 σ H1 ∧ PostT (Gx.of X) W σ m1 H1 (k b S1) Q := by
  obtain ⟨m, ρ, S, R, h⟩ := h
  have h1 := bindT_T (G := Gx.of X) h
  refine ⟨m, ρ, S, R, ?_⟩
  revert h1
  cases T ρ S with
  | err c f S => exact fun z => z
  | bad => exact fun z => z
  | ok x S1 =>
    intro h1 m1 H1 e s
    obtain ⟨m1', S1', e', s', h2⟩ := h1 m1 H1 e s
    exact ⟨m1', S1', ρ, R.ext e' s', h2⟩
theorem w_and (ha : PTv X W a T) (hb : PWv X W (.BoolOp .And (b :: rest) pos) T') : PWv X W (.BoolOp .And (a :: b :: rest) pos) (dAndT T T') := PW.imp (pw_and ha hb) fun σ H Q ⟨m, ρ, S, R, h⟩ => by
  have h1 := bindT_T (G := Gx.of X) h
  refine ⟨m, ρ, S, R, ?_⟩
  revert h1
  cases T ρ S with
  | err c f S => exact fun z => z
  | bad => exact fun z => z
  | ok x S1 =>
    intro h1 m1 H1 e s
    obtain ⟨m1', S1', e', s', h2⟩ := h1 m1 H1 e s
    cases x with
    | true => exact ⟨m1', ρ, S1', R.ext e' s', h2⟩
    | false => exact h2 m1' H1 (Ext.refl _ _) s'
theorem w_or (ha : PTv X W a T) (hb : PWv X W (.BoolOp .Or (b :: rest) pos) T') : PWv X W (.BoolOp .Or (a :: b :: rest) pos) (dOrT T T') := PW.imp (pw_or ha hb) fun σ H Q ⟨m, ρ, S, R, h⟩ => by
  have h1 := bindT_T (G := Gx.of X) h
  refine ⟨m, ρ, S, R, ?_⟩
  revert h1
  cases T ρ S with
  | err c f S => exact fun z => z
  | bad => exact fun z => z
  | ok x S1 =>
    intro h1 m1 H1 e s
    obtain ⟨m1', S1', e', s', h2⟩ := h1 m1 H1 e s
    cases x with
    | false => exact ⟨m1', ρ, S1', R.ext e' s', h2⟩
    | true => exact h2 m1' H1 (Ext.refl _ _) s'
theorem q_bool (h : PWv X W a T) : PTv X W a T := PW.pt h
theorem r_not (ha : PEv X W a A) : PEv X W (.UnaryOp .Not a pos) (dNot A) := PE.imp (pe_not ha) fun σ H Q q => tev_get (tev_top q) fun v H' ⟨m1, S1, x, s1, r1, h1⟩ => by
  obtain ⟨b, e, _, h2⟩ := blOf_E r1 h1
  exact ⟨b, e, post_ok h2 s1 rfl⟩
theorem r_one {op} (h : PEv X W a A) : PEv X W (.BoolOp op [a] pos) A := pe_one h
theorem r_and (ha : PEv X W a A) (hb : PEv X W (.BoolOp .And (b :: rest) pos) B) : PEv X W (.BoolOp .And (a :: b :: rest) pos) (dAnd A B) := PE.imp (pe_and ha hb) fun σ H Q ⟨m, ρ, S, R, h⟩ => by
  have h1 := PostE.bind (G := Gx.of X) h
  refine ⟨m, ρ, S, R, ?_⟩
  revert h1
  cases A ρ S with
  | err c f S => exact fun z => z
  | bad => exact fun z => z
  | ok x S1 =>
    intro h1 m1 H1 u e s r
    obtain ⟨m1', S1', p, e', s', r', h2⟩ := h1 m1 H1 u e s r
    obtain ⟨b, eb, _, h2⟩ := blOf_E r' h2
    refine ⟨b, eb, ?_⟩
    cases b with
    | true => exact ⟨m1', ρ, S1', R.ext e' s', h2⟩
    | false => exact post_ok h2 s' rfl
theorem r_or (ha : PEv X W a A) (hb : PEv X W (.BoolOp .Or (b :: rest) pos) B) : PEv X W (.BoolOp .Or (a :: b :: rest) pos) (dOr A B) := PE.imp (pe_or ha hb) fun σ H Q ⟨m, ρ, S, R, h⟩ => by
  have h1 := PostE.bind (G := Gx.of X) h
  refine ⟨m, ρ, S, R, ?_⟩
  revert h1
  cases A ρ S with
  | err c f S => exact fun z => z
  | bad => exact fun z => z
  | ok x S1 =>
    intro h1 m1 H1 u e s r
    obtain ⟨m1', S1', p, e', s', r', h2⟩ := h1 m1 H1 u e s r
    obtain ⟨b, eb, _, h2⟩ := blOf_E r' h2
    refine ⟨b, eb, ?_⟩
    cases b with
    | false => exact ⟨m1', ρ, S1', R.ext e' s', h2⟩
    | true => exact post_ok h2 s' rfl
theorem r_if (hc : PTv X W c T) (ha : PEv X W a A) (hb : PEv X W b B) : PEv X W (.IfExp c a b pos) (dIf T A B) := PE.imp (pe_ifExp hc ha hb) fun σ H Q ⟨m, ρ, S, R, h⟩ => by
  have h1 := bindT_E (G := Gx.of X) h
  refine ⟨m, ρ, S, R, ?_⟩
  revert h1
  cases T ρ S with
  | err c f S => exact fun z => z
  | bad => exact fun z => z
  | ok x S1 =>
    intro h1 m1 H1 e s
    obtain ⟨m1', S1', e', s', h2⟩ := h1 m1 H1 e s
    cases x with
    | true => exact ⟨m1', ρ, S1', R.ext e' s', h2⟩
    | false => exact ⟨m1', ρ, S1', R.ext e' s', h2⟩
theorem ch_top {f g : PyData → PyData → Option PyData} {σ : L2.St} {H : Hp} {Q : VK} (h : tev (Gx.of X) W (dCh f g A B C) σ H Q) : tChain (rOf X f) (rOf X g) (tev (Gx.of X) W A) (tev (Gx.of X) W B) (tev (Gx.of X) W C) σ H Q := by
  obtain ⟨m, ρ, S, R, h⟩ := h
  have h1 := PostE.bind (G := Gx.of X) h
  refine ⟨m, ρ, S, R, ?_⟩
  revert h1
  cases A ρ S with
  | err c f S => exact fun z => z
  | bad => exact fun z => z
  | ok x S1 =>
    intro h1 m1 H1 u e s r
    obtain ⟨m1', S1', p, e', s', r', h2⟩ := h1 m1 H1 u e s r
    have h2' := PostE.bind (G := Gx.of X) h2
    refine ⟨m1', ρ, S1', R.ext e' s', ?_⟩
    revert h2'
    cases B ρ S1' with
    | err c f S => exact fun z => z
    | bad => exact fun z => z
    | ok y S2 =>
      intro h2' m2 H2 v e2 s2 r2
      obtain ⟨m2', S2', q, e3, s3, r3, h3⟩ := h2' m2 H2 v e2 s2 r2
      have h3' := PostE.bind (G := Gx.of X) h3
      have R2 : Rd0 (Gx.of X) m2' ρ S2' σ H2 := (R.ext e' s').ext e3 s3
      refine lift2_rOf (W := W) (σ := σ) s3 (RepV.ext r' s'.mok e3) r3 ?_
      revert h3'
      cases lift2 f p q S2' with
      | err c f S => exact fun z => z
      | bad => exact fun z => z
      | ok z S3 =>
        intro h3' m3 H3 k e4 s4 r4
        obtain ⟨m3', S3', z', e5, s5, r5, h4⟩ := h3' m3 H3 k e4 s4 r4
        obtain ⟨b', eb, _, h4⟩ := blOf_E r5 h4
        refine ⟨b', eb, ?_⟩
        cases b' with
        | false => exact post_ok h4 s5 rfl
        | true =>
          have h5 := PostE.bind (G := Gx.of X) h4
          refine ⟨m3', ρ, S3', R2.ext e5 s5, ?_⟩
          revert h5
          cases C ρ S3' with
          | err c f S => exact fun z => z
          | bad => exact fun z => z
          | ok cv S4 =>
            intro h5 m4 H4 cu e6 s6 r6
            obtain ⟨m4', S4', c', e7, s7, r7, h6⟩ := h5 m4 H4 cu e6 s6 r6
            exact lift2_rOf s7 (RepV.ext (RepV.ext r3 s3.mok e5) s5.mok e7) r7 h6
/-- a < b <= c -/
theorem r_chain {op op' : CmpOp} {f g : PyData → PyData → Option PyData} (ho : Op2 X (compareOp op) f) (ho' : Op2 X (compareOp op') g) (ha : PEv X W a A) (hb : PEv X W b B) (hc : PEv X W c C) (hm : lastMarks [op, op'] [b, c] = false := by with_unfolding_all rfl) :
    PEv X W (.Compare a [op, op'] [b, c] pos) (dCh f g A B C) := PE.imp (pe_chain ho ho' ha hb hc hm) fun σ H Q h => ch_top h
/-- comparisons as tests -/
theorem q_cmp {op : CmpOp} {f : PyData → PyData → Option PyData} (ho : Op2 X (compareOp op) f) (ha : PEv X W a A) (hb : PEv X W b B) (hm : behindInMarks op b = false := by rfl) : PTv X W (.Compare a [op] [b] pos) (dTst (d2 f A B)) :=
  PT.imp (pt_cmpR ho ha hb hm) fun σ H Q q => d2_top (tev_get (tevV_topT q) fun v H' ⟨m1, S1, x, s1, r1, h1⟩ => blOf_T s1 r1 h1)
theorem q_chain {op op' : CmpOp} {f g : PyData → PyData → Option PyData} (ho : Op2 X (compareOp op) f) (ho' : Op2 X (compareOp op') g) (ha : PEv X W a A) (hb : PEv X W b B) (hc : PEv X W c C) (hm : lastMarks [op, op'] [b, c] = false := by with_unfolding_all rfl) :
    PTv X W (.Compare a [op, op'] [b, c] pos) (dTst (dCh f g A B C)) := PT.imp (pt_chain ho ho' ha hb hc hm) fun σ H Q q => ch_top (tev_get (tevV_topT q) fun v H' ⟨m1, S1, x, s1, r1, h1⟩ => blOf_T s1 r1 h1)
def ixOf : PyData → PyData → Option PyData
  | .list xs, .int i => atI xs i
  | .tuple xs, .int i => atI xs i
  | .str z, .int i => if szOk z.length then (atI z.cps.toList i).map fun c => .str ⟨#[c]⟩ else none
  | .dict kvs, k => (dkey k).bind fun n => dfind kvs n
  | _, _ => none
def liftIx (x y : Val) (S : Sto) : Res Val := match x.getR S with
  | some p => match y.get S with
    | some q => match ixOf p q with
      | some z => .ok (.pv z) S
      | none => .bad
    | none => .bad
  | none => .bad
def dIx (A B : DE) : DE := fun ρ S => (A ρ S).bind fun x S1 => (B ρ S1).bind fun y S2 => liftIx x y S2
theorem reps_at {P : Program} {w : World} {K : PySem.W.Frag} {m : Mp} {H : Hp} {ps : List PyData} {us : List V} {i : Int} {p : PyData} (h : Reps P w K m H ps us) (e : atI ps i = some p) : ∃ u, atI us i = some u ∧ Rep P w K m H p u := by
  unfold atI at e ⊢
  rw [← Reps.length h]
  cases q : ixN ps.length i with
  | none => rw [q] at e; cases e
  | some j => rw [q] at e; exact Reps.get j h e
theorem ix_all (hu : X.A.units + 65 < cLine) {σ0 : L2.St} : IxR X (fun u v H Q => ∃ m S x y, RepS X.prog X.w X.K m H S ∧ RepV X.prog X.w X.K m H X.mg x u ∧ RepV X.prog X.w X.K m H X.mg y v ∧ PostE (Gx.of X) W σ0 m H (liftIx x y S) Q) := by
  intro value slice pins s σ H u v uu vv Q I ru rv ⟨m, S, x, y, rs, rx, ry, h⟩ hs
  unfold liftIx at h
  split at h
  · rename_i p hp
    split at h
    · rename_i q hq
      split at h
      · rename_i z hz
        have fin : ∀ w, Rep X.prog X.w X.K m H z w → Q w H := fun w r => post_ok h rs r
        have rq := peek ry rs hq
        have lst : ∀ (xs : List PyData) (i : Int) (a : Addr) (us : List V), u = .ref a → SqL X.K H a us → Reps X.prog X.w X.K m H xs us → q = .int i → atI xs i = some z → wpAny (model X.prog X.w) X.A (subscriptTail value slice uu vv) (EP X pins σ Q) X.xe s := by
          intro xs i a us eu hl hr eq e
          subst eu eq
          obtain ⟨w, e1, r1⟩ := reps_at hr e
          obtain rfl : v = .int i := rq
          exact ix_list value slice pins s σ H _ _ uu vv Q I ru rv ⟨a, us, i, w, rfl, rfl, hl, e1, fin w r1⟩ hs
        have main : RepT X.prog X.w X.K m H p u → wpAny (model X.prog X.w) X.A (subscriptTail value slice uu vv) (EP X pins σ Q) X.xe s := by
          intro rp
          unfold ixOf at hz
          split at hz
          · obtain ⟨a, us, e, hl, hr⟩ := rp
            exact lst _ _ a us e (SqL.of hl) hr rfl hz
          · obtain ⟨a, us, e, hl, hr⟩ := rp
            subst e
            obtain ⟨w, e1, r1⟩ := reps_at hr hz
            cases rq
            exact ix_tup value slice pins s σ H _ _ uu vv Q I ru rv ⟨a, us, _, w, rfl, rfl, hl, e1, fin w r1⟩ hs
          · split at hz
            · rename_i hz'
              simp only [Option.map_eq_some_iff] at hz
              obtain ⟨c, e1, rfl⟩ := hz
              cases rp; cases rq
              exact ix_str value slice pins s σ H _ _ uu vv Q I ru rv ⟨_, _, c, rfl, rfl, sz_of hz', e1, fin _ rfl⟩ hs
            · cases hz
          · simp only [Option.bind_eq_some_iff] at hz
            obtain ⟨nk, e, hz⟩ := hz
            obtain ⟨⟨ps, rfl⟩, e1, e2⟩ := dkey_of e
            obtain ⟨ka, us, rfl, hT, hr⟩ := rq
            obtain ⟨a, xs, rfl, hd, hy, hl, nd, rk⟩ := rp
            obtain rfl : vv = Value.ref ka := rv
            obtain rfl : uu = Value.ref a := ru
            have hm : s.heap.DictKeyed (nestedKind X.prog X.w) a (pairsH xs.l) := ⟨xs.l, dict_of I hd nd rk, rfl⟩
            have hk : (nestedKind X.prog X.w).is s.heap nk ka := ⟨nested_of I (.tuple ps) (.ref ka) _ nk e1 ⟨ka, us, rfl, hT, hr⟩ rfl, e2⟩
            have room : (nestedKind X.prog X.w).room X.A.in1 := by show X.A.units + 1 + 8 < cLine; omega
            rcases dfind_at nk rk with ⟨h1, h2⟩ | ⟨p, u, v, h1, h2, h3, h4⟩
            · rw [h1] at hz; cases hz
            · rw [h1] at hz; cases hz
              exact tail_any hm.typeIs PySem.F.slot_dict_getitem.lookup (getItem_keyed room hk hm h2 ⟨v, H, I.tok _, h3, fin v h4⟩) hs
          · cases hz
        cases x with
        | ro xs =>
          obtain rfl : p = .list xs := (Option.some.inj hp).symm
          cases q with
          | int i =>
            obtain ⟨a, us, e, hl, hr⟩ := rx
            exact lst xs i a us e (by rcases hl with ⟨hl, _⟩ | hl; exact .inl hl; exact hl H) hr rfl hz
          | _ => cases hz
        | fn f => cases hp
        | pv p' => exact main (peek rx rs hp)
        | loc l => exact main (peek rx rs hp)
      · exact h.elim
    · exact h.elim
  · exact h.elim
theorem d2v_top {k : Val → Val → Sto → Res Val} {σ : L2.St} {H : Hp} {Q : VK} (h : tev (Gx.of X) W (fun ρ S => (A ρ S).bind fun x S1 => (B ρ S1).bind fun y S2 => k x y S2) σ H Q) :
    tev (Gx.of X) W A σ H fun u H1 => tev (Gx.of X) W B σ H1 fun v H2 => ∃ m S x y, RepS X.prog X.w X.K m H2 S ∧ RepV X.prog X.w X.K m H2 X.mg x u ∧ RepV X.prog X.w X.K m H2 X.mg y v ∧ PostE (Gx.of X) W σ m H2 (k x y S) Q := by
  obtain ⟨m, ρ, S, R, h⟩ := h
  have h1 := PostE.bind (G := Gx.of X) h
  refine ⟨m, ρ, S, R, ?_⟩
  revert h1
  cases A ρ S with
  | ok x S1 =>
    intro h1 m1 H1 u e s r
    obtain ⟨m1', S1', p, e', s', r', h2⟩ := h1 m1 H1 u e s r
    have h2' := PostE.bind (G := Gx.of X) h2
    refine ⟨m1', ρ, S1', R.ext e' s', ?_⟩
    revert h2'
    cases B ρ S1' with
    | ok y S2 =>
      intro h2' m2 H2 v e2 s2 r2
      obtain ⟨m2', S2', q, e3, s3, r3, h3⟩ := h2' m2 H2 v e2 s2 r2
      exact ⟨m2', S2', p, q, s3, RepV.ext r' s'.mok e3, r3, h3⟩
    | err c f S => exact fun z => z
    | bad => exact fun z => z
  | err c f S => exact fun z => z
  | bad => exact fun z => z
theorem r_ix (hu : X.A.units + 65 < cLine) (ha : PEv X W a A) (hb : PEv X W b B) (hs : PlainIx b := by exact fun _ _ => rfl) : PEv X W (.Subscript a b pos) (dIx A B) :=
  ⟨fun pins s σ H Q I h => (pe_ix (ix_all (W := W) (σ0 := σ) hu) ha hb hs).run pins s σ H Q I (d2v_top h)⟩
abbrev DO := En → Sto → Res (Option Int)
def intOf (x : Val) (S : Sto) : Res (Option Int) := match x with
  | .pv (.int i) => .ok (some i) S
  | _ => .bad
def dNo : DO := fun _ S => .ok none S
def dPt (A : DE) : DO := fun ρ S => (A ρ S).bind intOf
def cutP (xs : List PyData) (lo hi : Option Int) : List PyData := (xs.drop (HT.sIx xs.length 0 lo)).take (HT.sIx xs.length xs.length hi - HT.sIx xs.length 0 lo)
def slOf (lo hi : Option Int) : PyData → Option PyData
  | .list xs => some (.list (cutP xs lo hi))
  | .tuple xs => some (.tuple (cutP xs lo hi))
  | .str z => if szOk z.length then some (.str (cutS z lo hi)) else none
  | _ => none
def liftSl (x : Val) (lo hi : Option Int) (S : Sto) : Res Val := match x.get S with
  | some p => match slOf lo hi p with
    | some z => .ok (.pv z) S
    | none => .bad
  | none => .bad
def dSl (A : DE) (L U : DO) : DE := fun ρ S => (A ρ S).bind fun x S1 => (L ρ S1).bind fun lo S2 => (U ρ S2).bind fun hi S3 => liftSl x lo hi S3
def PostO (G : Gx) (W : WX) (σ : L2.St) (m : Mp) (H : Hp) (r : Res (Option Int)) (Q : Option Int → Hp → Prop) : Prop := match r with
  | .ok b S => ∀ m' H', Ext m H m' H' → RepS G.P G.w G.K m' H' S → Q b H'
  | .err c f S => ∀ m' H' cls d, Ext m H m' H' → RepS G.P G.w G.K m' H' S → RepX G m' H' c f cls d → W cls d σ H'
  | .bad => False
def tevO (G : Gx) (W : WX) (D : DO) : TO := fun σ H Q => ∃ m ρ S, Rd0 G m ρ S σ H ∧ PostO G W σ m H (D ρ S) Q
abbrev POv (X : Cx) (W : WX) (e : Option Expr) (D : DO) : Prop := PO X e (tevO (Gx.of X) W D)
theorem o_none : POv X W none dNo := ⟨fun pins s σ H Q I ⟨m, ρ, S, R, h⟩ => po_none.run pins s σ H Q I (h m H (Ext.refl _ _) R.s)⟩
theorem o_some (ha : PEv X W a A) : POv X W (some a) (dPt A) := ⟨fun pins s σ H Q I ⟨m, ρ, S, R, h⟩ => (po_some ha).run pins s σ H Q I (by
  refine ⟨m, ρ, S, R, ?_⟩
  have h : PostO (Gx.of X) W σ m H ((A ρ S).bind intOf) Q := h
  revert h
  cases A ρ S with
  | err c f S => exact fun z => z
  | bad => exact fun z => z
  | ok x S1 =>
    intro h m1 H1 u e s r
    simp only [Res.bind_ok, intOf] at h
    split at h
    · exact ⟨_, r, h m1 H1 e s⟩
    · exact h.elim)⟩
theorem cut_reps {P : Program} {w : World} {K : PySem.W.Frag} {m : Mp} {H : Hp} {ps : List PyData} {us : List V} {lo hi : Option Int} (h : Reps P w K m H ps us) : Reps P w K m H (cutP ps lo hi) (cutV us lo hi) := by
  unfold cutP cutV
  rw [Reps.length h]
  exact Reps.take _ (Reps.drop _ h)
theorem sl_all {σ0 : L2.St} : SlR X (fun u lo hi H Q => ∃ m S x, RepS X.prog X.w X.K m H S ∧ RepV X.prog X.w X.K m H X.mg x u ∧ PostE (Gx.of X) W σ0 m H (liftSl x lo hi S) Q) := by
  intro pins s σ H u v vl vu lo hi sl Q I ru hsl pl pu ⟨m, S, x, rs, rx, h⟩
  unfold liftSl at h
  split at h
  · rename_i p hp
    split at h
    · rename_i z hz
      have rp := peek rx rs hp
      unfold slOf at hz
      split at hz
      · cases hz
        obtain ⟨a, us, e, hl, hr⟩ := rp
        exact sl_list pins s σ H u v vl vu lo hi sl Q I ru hsl pl pu ⟨a, us, e, SqL.of hl, fun p np => h m _ _ (Ext.upd np) (rs.upd np) ⟨p, _, rfl, upd_same, rs.notin np, Reps.go (Go.of rs.mok (Ext.upd np)) _ _ (cut_reps hr)⟩⟩
      · cases hz
        obtain ⟨a, us, e, hl, hr⟩ := rp
        refine sl_tupA pins s σ H u v vl vu lo hi sl Q I ru hsl pl pu ⟨a, us, e, hl, fun hw => ?_, fun hw p np => h m _ _ (Ext.upd np) (rs.upd np) ⟨p, _, rfl, SqT.of upd_same, Reps.go (Go.of rs.mok (Ext.upd np)) _ _ (cut_reps hr)⟩⟩
        have hc := cut_reps (lo := lo) (hi := hi) hr
        have e2 : cutV us lo hi = us := by
          unfold cutV
          rw [hw.1, hw.2]
          simp
        rw [e2] at hc
        exact h m H _ (Ext.refl _ _) rs ⟨a, us, rfl, hl, hc⟩
      · split at hz
        · rename_i hz'
          cases hz; cases rp
          exact sl_str pins s σ H _ v vl vu lo hi sl Q I ru hsl pl pu ⟨_, rfl, sz_of hz', h m H _ (Ext.refl _ _) rs rfl⟩
        · cases hz
      · cases hz
    · exact h.elim
  · exact h.elim
theorem r_sl {lo hi : Option Expr} {L U : DO} {p2} (ha : PEv X W a A) (hl : POv X W lo L) (hh : POv X W hi U) : PEv X W (.Subscript a (.Slice lo hi none p2) pos) (dSl A L U) :=
  ⟨fun pins s σ H Q I h => (pe_slice (sl_all (W := W) (σ0 := σ)) ha hl hh).run pins s σ H Q I (by
    obtain ⟨m, ρ, S, R, h⟩ := h
    have h1 := PostE.bind (G := Gx.of X) h
    refine ⟨m, ρ, S, R, ?_⟩
    revert h1
    cases A ρ S with
    | err c f S => exact fun z => z
    | bad => exact fun z => z
    | ok x S1 =>
      intro h1 m1 H1 u e s r
      obtain ⟨m1', S1', p, e', s', r', h2⟩ := h1 m1 H1 u e s r
      refine ⟨m1', ρ, S1', R.ext e' s', ?_⟩
      revert h2
      cases L ρ S1' with
      | err c f S => exact fun z => z
      | bad => exact fun z => z
      | ok lo S2 =>
        intro h2 m2 H2 e2 s2
        have R2 := (R.ext e' s').ext e2 s2
        refine ⟨m2, ρ, S2, R2, ?_⟩
        have h2 : PostE (Gx.of X) W σ m1' H1 ((U ρ S2).bind fun hi S3 => liftSl p lo hi S3) Q := h2
        revert h2
        cases U ρ S2 with
        | err c f S => exact fun h2 m' H' cls d e s => h2 m' H' cls d (e2.trans e) s
        | bad => exact fun z => z
        | ok hi S3 =>
          intro h2 m3 H3 e3 s3
          exact ⟨m3, S3, p, s3, RepV.ext (RepV.ext r' s'.mok e2) s2.mok e3, PostE.ext (G := Gx.of X) (r := liftSl p lo hi S3) h2 (e2.trans e3)⟩)⟩
end
end Mi
set_option maxHeartbeats 4000000
namespace Mi
open PySem PySem.Spec PyProof.Rows L2
abbrev Fn := List Val → Sto → Res Val
/-- a statement's end -/
inductive SR where
  | next (ρ : En) (S : Sto) | ret (v : Val) (S : Sto) | brk (ρ : En) (S : Sto) | cnt (ρ : En) (S : Sto) | err (c : Str) (f : Option (Str × PyData)) (ρ : En) (S : Sto) | bad
abbrev DS := En → Sto → SR
def Res.s {α : Type} (r : Res α) (ρ : En) (k : α → Sto → SR) : SR := match r with
  | .ok a S => k a S
  | .err c f S => .err c f ρ S
  | .bad => .bad
@[simp] theorem Res.s_ok {α : Type} (a : α) (S : Sto) (ρ : En) (k : α → Sto → SR) : (Res.ok a S).s ρ k = k a S := rfl
@[simp] theorem Res.s_err {α : Type} (c f S) (ρ : En) (k : α → Sto → SR) : (Res.err c f S).s ρ k = .err c f ρ S := rfl
@[simp] theorem Res.s_bad {α : Type} (ρ : En) (k : α → Sto → SR) : (Res.bad : Res α).s ρ k = .bad := rfl
def SR.next? (r : SR) (k : En → Sto → SR) : SR := match r with
  | .next ρ S => k ρ S
  | r => r
@[simp] theorem SR.next?_next (ρ S) (k : En → Sto → SR) : (SR.next ρ S).next? k = k ρ S := rfl
@[simp] theorem SR.next?_ret (v S) (k : En → Sto → SR) : (SR.ret v S).next? k = .ret v S := rfl
@[simp] theorem SR.next?_err (c f ρ S) (k : En → Sto → SR) : (SR.err c f ρ S).next? k = .err c f ρ S := rfl
@[simp] theorem SR.next?_bad (k : En → Sto → SR) : SR.bad.next? k = .bad := rfl
@[simp] theorem SR.next?_brk (ρ S) (k : En → Sto → SR) : (SR.brk ρ S).next? k = .brk ρ S := rfl
@[simp] theorem SR.next?_cnt (ρ S) (k : En → Sto → SR) : (SR.cnt ρ S).next? k = .cnt ρ S := rfl

section
variable (G : Gx)
def PostS (W : WX) (m : Mp) (H : Hp) (r : SR) (D : Ends) : Prop := match r with
  | .next ρ S => ∀ m' H' σ, Ext m H m' H' → Rd0 G m' ρ S σ H' → D.nx σ H'
  | .ret v S => ∀ m' H' u, Ext m H m' H' → RepS G.P G.w G.K m' H' S → RepV G.P G.w G.K m' H' G.mg v u → D.rt u H'
  | .brk ρ S => ∀ m' H' σ, Ext m H m' H' → Rd0 G m' ρ S σ H' → D.bk σ H'
  | .cnt ρ S => ∀ m' H' σ, Ext m H m' H' → Rd0 G m' ρ S σ H' → D.ct σ H'
  | .err c f ρ S => ∀ m' H' σ cls d, Ext m H m' H' → Rd0 G m' ρ S σ H' → RepX G m' H' c f cls d → W cls d σ H'
  | .bad => False
def tevS (W : WX) (B : DS) : TS := fun D σ H => ∃ m ρ S, Rd0 G m ρ S σ H ∧ PostS G W m H (B ρ S) D
def PostF (E : XK) (m : Mp) (H : Hp) (r : Res Val) (Q : VK) : Prop := match r with
  | .ok p S => ∀ m' H' v, Ext m H m' H' → RepS G.P G.w G.K m' H' S → RepV G.P G.w G.K m' H' G.mg p v → Q v H'
  | .err c f S => ∀ m' H' cls d, Ext m H m' H' → RepS G.P G.w G.K m' H' S → RepX G m' H' c f cls d → E cls d H'
  | .bad => False
/-- what a def promises: it makes what F makes -/
def spF (n : Nat) (F : Fn) : Sp := fun vs H Q E => vs.length = n ∧ ∃ m S xs, RepVs G.P G.w G.K m H G.mg xs vs ∧ RepS G.P G.w G.K m H S ∧ PostF G E m H (F xs S) Q
end
section
variable {G : Gx}
theorem PostS.ext {W : WX} {m m' : Mp} {H H' : Hp} {r : SR} {D : Ends} (h : PostS G W m H r D) (e : Ext m H m' H') : PostS G W m' H' r D := by
  cases r with
  | next ρ S => exact fun m2 H2 v e2 s => h m2 H2 v (e.trans e2) s
  | ret ρ S => exact fun m2 H2 v e2 s => h m2 H2 v (e.trans e2) s
  | brk ρ S => exact fun m2 H2 v e2 s => h m2 H2 v (e.trans e2) s
  | cnt ρ S => exact fun m2 H2 v e2 s => h m2 H2 v (e.trans e2) s
  | err c f ρ S => exact fun m2 H2 v cls d e2 s r => h m2 H2 v cls d (e.trans e2) s r
  | bad => exact h
theorem bindE_S {W : WX} {σ : L2.St} {ρ : En} {S : Sto} {m : Mp} {H : Hp} {r : Res Val} {k : Val → Sto → SR} {D : Ends} (R : Rd0 G m ρ S σ H) (h : PostS G W m H (r.s ρ k) D) :
    PostE G W σ m H r fun v H1 => ∃ m1 S1 p, Ext m H m1 H1 ∧ RepS G.P G.w G.K m1 H1 S1 ∧ RepV G.P G.w G.K m1 H1 G.mg p v ∧ PostS G W m1 H1 (k p S1) D := by
  cases r with
  | ok p S => exact fun m1 H1 v e s rp => ⟨m1, S, p, e, s, rp, PostS.ext h e⟩
  | err c f S => exact fun m' H' cls d e s r => h m' H' σ cls d e (R.ext e s) r
  | bad => exact h
theorem bindT_S {W : WX} {σ : L2.St} {ρ : En} {S : Sto} {m : Mp} {H : Hp} {r : Res Bool} {k : Bool → Sto → SR} {D : Ends} (R : Rd0 G m ρ S σ H) (h : PostS G W m H (r.s ρ k) D) :
    PostT G W σ m H r fun b H1 => ∃ m1 S1, Ext m H m1 H1 ∧ RepS G.P G.w G.K m1 H1 S1 ∧ PostS G W m1 H1 (k b S1) D := by
  cases r with
  | ok p S => exact fun m1 H1 e s => ⟨m1, S, e, s, PostS.ext h e⟩
  | err c f S => exact fun m' H' cls d e s r => h m' H' σ cls d e (R.ext e s) r
  | bad => exact h
theorem Rd0.set {m : Mp} {ρ : En} {S : Sto} {σ : L2.St} {H : Hp} {x : Val} {v : V} (R : Rd0 G m ρ S σ H) (i : Nat) (r : RepV G.P G.w G.K m H G.mg x v) : Rd0 G m (ρ.set i (some x)) S (σ.set i (some v)) H :=
  ⟨⟨by simp [R.e.len], fun j y e => by
    by_cases hj : i = j
    · subst hj
      rw [List.getElem?_set] at e ⊢
      simp only [ite_true] at e ⊢
      split at e
      · rename_i hl
        rw [if_pos (by rw [← R.e.len]; exact hl)]
        cases e
        exact ⟨v, rfl, r⟩
      · cases e
    · rw [List.getElem?_set_ne hj] at e ⊢
      exact R.e.at_ j y e⟩, R.s⟩
end

def dPass : DS := fun ρ S => .next ρ S
def dSeq (A B : DS) : DS := fun ρ S => (A ρ S).next? B
def dSet (i : Nat) (A : DE) : DS := fun ρ S => (A ρ S).s ρ fun x S1 => .next (ρ.set i (some x)) S1
def dRet (A : DE) : DS := fun ρ S => (A ρ S).s ρ fun x S1 => .ret x S1
def dDo (A : DE) : DS := fun ρ S => (A ρ S).s ρ fun _ S1 => .next ρ S1
def dIfS (T : DT) (A B : DS) : DS := fun ρ S => (T ρ S).s ρ fun b S1 => if b = true then A ρ S1 else B ρ S1
/-- targets -/
abbrev DG := Val → En → Option En
def gN (i : Nat) : DG := fun x ρ => some (ρ.set i (some x))
def gT (gs : List DG) : DG := fun x ρ => match x with
  | .pv (.tuple ps) => go gs ps ρ
  | _ => none
where go : List DG → List PyData → En → Option En
  | [], [], ρ => some ρ
  | g :: gs, p :: ps, ρ => (g (.pv p) ρ).bind fun ρ1 => go gs ps ρ1
  | _, _, _ => none
def dAs (g : DG) (A : DE) : DS := fun ρ S => (A ρ S).s ρ fun x S1 => match g x ρ with
  | some ρ1 => .next ρ1 S1
  | none => .bad
/-- two names at once -/
def dPar (i j : Nat) (As : DA) : DS := fun ρ S => (As ρ S).s ρ fun xs S1 => match xs with
  | [x, y] => .next ((ρ.set i (some x)).set j (some y)) S1
  | _ => .bad
/-- the def's end: its own objects go, but one that it hands back -/
def leave (n : Nat) (v : Val) (S : Sto) : Res Val := match v with
  | .loc l => if l < n then .ok v (S.take n) else if l = n then .ok v (S.take (n + 1)) else .bad
  | _ => .ok v (S.take n)
def dEnd (n : Nat) (r : SR) : Res Val := match r with
  | .next _ S1 => leave n (.pv .none) S1
  | .ret v S1 => leave n v S1
  | .err c f _ S1 => .err c f (S1.take n)
  | _ => .bad
/-- a def of k parameters, n slots -/
def dFun (k n : Nat) (B : DS) : Fn := fun xs S => if xs.length = k then dEnd S.length (B (xs.map some ++ List.replicate (n - k) none) S) else .bad
/-- it takes k -/
def Ar (k : Nat) (F : Fn) : Prop := ∀ xs S, xs.length ≠ k → F xs S = .bad
theorem ar_dFun (k n : Nat) (B : DS) : Ar k (dFun k n B) := fun xs S h => by unfold dFun; rw [if_neg h]
def dCall (F : Fn) (As : DA) : DE := fun ρ S => (As ρ S).bind F

section
variable {X : Cx} {W : WX} {pos : Pos} {A B C : DE} {a b c : Expr} {es rest : List Expr} {As : DA} {T T' : DT} {Bs Cs : DS} {st : Stmt} {sts sts' : List Stmt}
abbrev PSv (X : Cx) (W : WX) (s : Stmt) (B : DS) : Prop := PS X s (tevS (Gx.of X) W B)
abbrev PSsv (X : Cx) (W : WX) (s : List Stmt) (B : DS) : Prop := PSs X s (tevS (Gx.of X) W B)
theorem PS.imp {t t' : TS} (h : PS X st t) (f : ∀ D σ H, t' D σ H → t D σ H) : PS X st t' := ⟨fun pins s σ H D I q => h.run pins s σ H D I (f D σ H q)⟩
theorem PSs.imp {t t' : TS} (h : PSs X sts t) (f : ∀ D σ H, t' D σ H → t D σ H) : PSs X sts t' := ⟨fun pins s σ H D I q => h.run pins s σ H D I (f D σ H q)⟩
/-- a call of a def of the text -/
theorem r_call {x : Str} {f : Addr} {fd : FuncData} {ps : List Str} {k n : Nat} {F : Fn} {p : Pos} (Fk : FnOk X.prog X.w X.K X.mg X.base (L2N.CX X.prog X.w) k f fd ps (spF (Gx.of X) n F)) (tk : L2N.Takes X W) (hr : Room k X.A) (hm : X.mg x = some (.ref f))
    (hk : PySem.W.keepIn X.K (.ref f) = true) (hb : Binds X.K fd ps []) (hF : Ar n F) (ha : PAv X W (a :: es) As) (hg : Gl X x := by rfl) (hdb : (x == ("__debug__" : Str)) = false := by decide) (he : starEach (a :: es) X.env = (false, eval a X.env) :: starEach es X.env := by rfl)
    (hpl : (backTo pos (starEach es X.env)).any (·.1) = false := by rfl) : PEv X W (.Call (.Name x p) (a :: es) [] pos) (dCall F As) :=
  PE.imp (pe_callS (E := WE W) Fk hr hg hm hk hb (fun σ => L2N.passAt tk σ) ha hdb he hpl) fun σ H Q h => by
    have h := tevA_top h
    obtain ⟨m, ρ, S, R, h⟩ := h
    refine ⟨m, ρ, S, R, ?_⟩
    revert h
    cases As ρ S with
    | err c f S => exact fun z => z
    | bad => exact fun z => z
    | ok xs S1 =>
      intro h m1 H1 us e s r
      obtain ⟨m2, S2, ys, s2, r2, h2⟩ := h m1 H1 us e s r
      have hlen : us.length = n := by
        by_cases z : ys.length = n
        · rw [← z]; exact (RepVs.length r2).symm
        · rw [hF ys S2 z] at h2; exact h2.elim
      refine ⟨hlen, m2, S2, ys, r2, s2, ?_⟩
      revert h2
      cases F ys S2 with
      | ok v S => exact fun z => z
      | err c f S => exact fun z => z
      | bad => exact fun z => z
theorem s_nil : PSsv X W [] dPass := PSs.imp pss_nil fun D σ H ⟨m, ρ, S, R, h⟩ => h m H σ (Ext.refl _ _) R
theorem s_pass : PSv X W (.Pass pos) dPass := PS.imp ps_pass fun D σ H ⟨m, ρ, S, R, h⟩ => h m H σ (Ext.refl _ _) R
theorem s_one (h : PSv X W st Bs) : PSsv X W [st] Bs := pss_one h
theorem s_cons (h1 : PSv X W st Bs) (h2 : PSsv X W sts Cs) : PSsv X W (st :: sts) (dSeq Bs Cs) := PSs.imp (pss_cons h1 h2) fun D σ H ⟨m, ρ, S, R, h⟩ => by
  refine ⟨m, ρ, S, R, ?_⟩
  unfold dSeq at h
  revert h
  cases Bs ρ S with
  | next ρ1 S1 => exact fun h m1 H1 σ1 e R1 => ⟨m1, ρ1, S1, R1, PostS.ext (G := Gx.of X) h e⟩
  | ret v S1 => exact fun z => z
  | brk ρ1 S1 => exact fun z => z
  | cnt ρ1 S1 => exact fun z => z
  | err c f ρ1 S1 => exact fun z => z
  | bad => exact fun z => z
/-- what a statement makes of a value -/
theorem tevS_top {k : En → Val → Sto → SR} {D : Ends} {σ : L2.St} {H : Hp} (h : tevS (Gx.of X) W (fun ρ S => (A ρ S).s ρ (k ρ)) D σ H) :
    tev (Gx.of X) W A σ H fun u H1 => ∃ m1 S1 x ρ, Rd0 (Gx.of X) m1 ρ S1 σ H1 ∧ RepV X.prog X.w X.K m1 H1 X.mg x u ∧ PostS (Gx.of X) W m1 H1 (k ρ x S1) D := by
  obtain ⟨m, ρ, S, R, h⟩ := h
  have h1 := bindE_S (G := Gx.of X) R h
  refine ⟨m, ρ, S, R, ?_⟩
  revert h1
  cases A ρ S with
  | err c f S => exact fun z => z
  | bad => exact fun z => z
  | ok x S1 =>
    intro h1 m1 H1 u e s r
    obtain ⟨m1', S1', p, e', s', r', h2⟩ := h1 m1 H1 u e s r
    exact ⟨m1', S1', p, ρ, R.ext e' s', r', h2⟩
theorem s_set {i : Nat} {x : Str} {pos' : Pos} (hN : X.N.Nodup) (he : PEv X W a A) (hi : X.N[i]? = some x := by rfl) (hx : Loc X.env.scope x := by first | exact .inl rfl | exact .inr rfl) (hs : swapsWith a (some (.Name x pos')) pos.line X.env = pure false := by rfl)
    (hf : X.fn x = true ∨ X.env.scope.names.lookup x = some .local := by first | exact .inl rfl | exact .inr rfl | assumption) : PSv X W (.Assign [.Name x pos'] a pos) (dSet i A) :=
  PS.imp (ps_set hN hi hx he hs hf) fun D σ H h => tev_get (tevS_top h) fun v H' ⟨m1, S1, x, ρ, R, r, h⟩ => h m1 H' _ (Ext.refl _ _) (R.set i r)
theorem s_ret (he : PEv X W a A) : PSv X W (.Return (some a) pos) (dRet A) := PS.imp (ps_ret he) fun D σ H h => tev_get (tevS_top (k := fun _ x S => .ret x S) h) fun v H' ⟨m1, S1, x, ρ, R, r, h⟩ => h m1 H' _ (Ext.refl _ _) R.s r
theorem s_do (he : PEv X W a A) (hs : swapsWith a none pos.line X.env = pure false := by rfl) : PSv X W (.Expr a pos) (dDo A) := PS.imp (ps_expr he hs) fun D σ H h => tev_get (tevS_top (k := fun ρ _ S => .next ρ S) h) fun v H' ⟨m1, S1, x, ρ, R, r, h⟩ => h m1 H' _ (Ext.refl _ _) R
theorem s_doc {x j pos'} : PSv X W (.Expr (.Constant (.str x) j pos) pos') dPass := PS.imp ps_doc fun D σ H ⟨m, ρ, S, R, h⟩ => h m H σ (Ext.refl _ _) R
theorem s_if (hc : PTv X W a T) (ha : PSsv X W sts Bs) (hb : PSsv X W sts' Cs) : PSv X W (.If a sts sts' pos) (dIfS T Bs Cs) := PS.imp (ps_if hc ha hb) fun D σ H ⟨m, ρ, S, R, h⟩ => by
  have h1 := bindT_S (G := Gx.of X) R h
  refine ⟨m, ρ, S, R, ?_⟩
  revert h1
  cases T ρ S with
  | err c f S => exact fun z => z
  | bad => exact fun z => z
  | ok x S1 =>
    intro h1 m1 H1 e s
    obtain ⟨m1', S1', e', s', h2⟩ := h1 m1 H1 e s
    cases x with
    | true => exact ⟨m1', ρ, S1', R.ext e' s', h2⟩
    | false => exact ⟨m1', ρ, S1', R.ext e' s', h2⟩
theorem wipe_setIn {σ : L2.St} {i : Nat} {x : Option V} : ∀ {vs : List Nat}, i ∈ vs → wipe (σ.set i x) vs = wipe σ vs
  | [], h => by cases h
  | v :: vs, h => by
    show (wipe (σ.set i x) vs).set v none = (wipe σ vs).set v none
    by_cases hi : i ∈ vs
    · rw [wipe_setIn hi]
    · have e : v = i := by rcases List.mem_cons.mp h with h | h; exact h.symm; exact absurd h hi
      subst e
      have comm : ∀ (ws : List Nat) (τ : L2.St), v ∉ ws → wipe (τ.set v x) ws = (wipe τ ws).set v x := by
        intro ws
        induction ws with
        | nil => intro τ _; rfl
        | cons w ws ih =>
          intro τ hw
          have h1 : w ≠ v := fun e => hw (by rw [e]; exact List.mem_cons_self)
          show (wipe (τ.set v x) ws).set w none = ((wipe τ ws).set w none).set v x
          rw [ih τ fun z => hw (List.mem_cons_of_mem _ z), List.set_comm _ _ h1.symm]
      rw [comm vs σ hi, List.set_set]
def tevG (G : Gx) (vs : List Nat) (g : DG) : TG := fun v σ H Q => ∃ m ρ S x ρ', Rd0 G m ρ S σ H ∧ RepV G.P G.w G.K m H G.mg x v ∧ g x ρ = some ρ' ∧ ∀ σ', Rd0 G m ρ' S σ' H → wipe σ' vs = wipe σ vs → Q σ' H
def tevGs (G : Gx) (ws : List Nat) (gs : List DG) : TGs := fun vs σ H Q => ∃ m ρ S ps ρ', Rd0 G m ρ S σ H ∧ Reps G.P G.w G.K m H ps vs ∧ gT.go gs ps ρ = some ρ' ∧ ∀ σ', Rd0 G m ρ' S σ' H → wipe σ' ws = wipe σ ws → Q σ' H
variable {ws : List Nat}
abbrev PGv (X : Cx) (ws : List Nat) (e : Expr) (g : DG) : Prop := PG X e (tevG (Gx.of X) ws g)
abbrev PGsv (X : Cx) (ws : List Nat) (e : List Expr) (gs : List DG) : Prop := PGs X e (tevGs (Gx.of X) ws gs)
theorem PG.imp {e : Expr} {t t' : TG} (h : PG X e t) (f : ∀ v σ H Q, t' v σ H Q → t v σ H Q) : PG X e t' := ⟨fun pins s σ H v u Q I r q => h.run pins s σ H v u Q I r (f v σ H Q q)⟩
theorem PGs.imp {e : List Expr} {t t' : TGs} (h : PGs X e t) (f : ∀ v σ H Q, t' v σ H Q → t v σ H Q) : PGs X e t' := ⟨fun pins s σ H v u Q I r q => h.run pins s σ H v u Q I r (f v σ H Q q)⟩
theorem g_name {i : Nat} {x : Str} (hN : X.N.Nodup) (hw : i ∈ ws := by decide) (hi : X.N[i]? = some x := by rfl) (hx : Loc X.env.scope x := by first | exact .inl rfl | exact .inr rfl) (hf : X.fn x = true ∨ X.env.scope.names.lookup x = some .local := by first | exact .inl rfl | exact .inr rfl | assumption) : PGv X ws (.Name x pos) (gN i) :=
  PG.imp (pg_name hN hi hx hf) fun v σ H Q ⟨m, ρ, S, x, ρ', R, r, e, q⟩ => by cases e; exact q _ (R.set i r) (wipe_setIn hw)
theorem gs_nil : PGsv X ws [] [] := PGs.imp pgs_nil fun v σ H Q ⟨m, ρ, S, ps, ρ', R, r, e, q⟩ => by
  cases ps with
  | nil => cases e; exact ⟨r, q _ R rfl⟩
  | cons p ps => cases e
theorem gs_cons {g : DG} {gs : List DG} (h1 : PGv X ws a g) (h2 : PGsv X ws es gs) (hs : (assignEach (a :: es) X.env).map (·.2) = assign a X.env :: (assignEach es X.env).map (·.2) := by rfl) : PGsv X ws (a :: es) (g :: gs) :=
  PGs.imp (pgs_cons h1 h2 hs) fun v σ H Q ⟨m, ρ, S, ps, ρ', R, r, e, q⟩ => by
    cases ps with
    | nil => cases e
    | cons p ps =>
      obtain ⟨u, us, rfl, r1, r2⟩ := r
      simp only [gT.go, Option.bind_eq_some_iff] at e
      obtain ⟨ρ1, e1, e2⟩ := e
      exact ⟨u, us, rfl, m, ρ, S, .pv p, ρ1, R, r1, e1, fun σ1 R1 w1 => ⟨m, ρ1, S, ps, ρ', R1, r2, e2, fun σ2 R2 w2 => q σ2 R2 (w2.trans w1)⟩⟩
theorem go_len : ∀ {gs : List DG} {ps : List PyData} {ρ ρ' : En}, gT.go gs ps ρ = some ρ' → gs.length = ps.length
  | [], [], _, _, _ => rfl
  | [], p :: ps, _, _, e => by cases e
  | g :: gs, [], _, _, e => by cases e
  | g :: gs, p :: ps, ρ, ρ', e => by
    simp only [gT.go, Option.bind_eq_some_iff] at e
    obtain ⟨ρ1, _, e2⟩ := e
    simp [go_len e2]
theorem g_tup {k : Nat} {gs : List DG} {n : Nat} (hc : X.calm = true) (h : PGsv X ws es gs) (hn : (assignEach es X.env).length = n := by rfl) (hst : (assignEach es X.env).findIdx? (·.1) = none := by rfl) (hgs : gs.length = n := by rfl) : PGv X ws (.Tuple es k pos) (gT gs) :=
  PG.imp (pg_tup hc h hn hst) fun v σ H Q ⟨m, ρ, S, x, ρ', R, r, e, q⟩ => by
    cases x with
    | pv p =>
      cases p with
      | tuple ps =>
        obtain ⟨a, us, rfl, hT, hr⟩ := r
        have e : gT.go gs ps ρ = some ρ' := e
        have hl : gs.length = ps.length := go_len e
        exact ⟨a, us, rfl, hT, by rw [← Reps.length hr, ← hl, hgs], m, ρ, S, ps, ρ', R, hr, e, q⟩
      | _ => cases e
    | _ => cases e
theorem s_as {tg : Expr} {g : DG} (he : PEv X W a A) (hg : PGv X ws tg g) (hs : swapsWithSole [tg] a pos.line X.env = pure false := by rfl) (hw : swappedStores [tg] a X.env = pure none := by rfl)
    (h1 : (assignEach [tg] X.env).map (·.2) = [assign tg X.env] := by rfl) : PSv X W (.Assign [tg] a pos) (dAs g A) := PS.imp (ps_asg he hg hs hw h1) fun D σ H h => tev_get (tevS_top (k := fun ρ x S => match g x ρ with | some ρ1 => .next ρ1 S | none => .bad) h) fun v H' ⟨m1, S1, x, ρ, R, r, h⟩ => by
  split at h
  · rename_i ρ1 e
    exact ⟨m1, ρ, S1, x, ρ1, R, r, e, fun σ' R' _ => h m1 H' σ' (Ext.refl _ _) R'⟩
  · exact h.elim
theorem bindA_S {G : Gx} {W : WX} {σ : L2.St} {ρ : En} {S : Sto} {m : Mp} {H : Hp} {r : Res (List Val)} {k : List Val → Sto → SR} {D : Ends} (R : Rd0 G m ρ S σ H) (h : PostS G W m H (r.s ρ k) D) :
    PostA G W σ m H r fun v H1 => ∃ m1 S1 p, Ext m H m1 H1 ∧ RepS G.P G.w G.K m1 H1 S1 ∧ RepVs G.P G.w G.K m1 H1 G.mg p v ∧ PostS G W m1 H1 (k p S1) D := by
  cases r with
  | ok p S => exact fun m1 H1 v e s rp => ⟨m1, S, p, e, s, rp, PostS.ext h e⟩
  | err c f S => exact fun m' H' cls d e s r => h m' H' σ cls d e (R.ext e s) r
  | bad => exact h
theorem tevSA_top {k : En → List Val → Sto → SR} {D : Ends} {σ : L2.St} {H : Hp} (h : tevS (Gx.of X) W (fun ρ S => (As ρ S).s ρ (k ρ)) D σ H) :
    tevA (Gx.of X) W As σ H fun us H1 => ∃ m1 S1 xs ρ, Rd0 (Gx.of X) m1 ρ S1 σ H1 ∧ RepVs X.prog X.w X.K m1 H1 X.mg xs us ∧ PostS (Gx.of X) W m1 H1 (k ρ xs S1) D := by
  obtain ⟨m, ρ, S, R, h⟩ := h
  have h1 := bindA_S (G := Gx.of X) R h
  refine ⟨m, ρ, S, R, ?_⟩
  revert h1
  cases As ρ S with
  | err c f S => exact fun z => z
  | bad => exact fun z => z
  | ok x S1 =>
    intro h1 m1 H1 u e s r
    obtain ⟨m1', S1', p, e', s', r', h2⟩ := h1 m1 H1 u e s r
    exact ⟨m1', S1', p, ρ, R.ext e' s', r', h2⟩
theorem tevA_get {σ : L2.St} {H : Hp} {Q Q' : List V → Hp → Prop} (h : tevA (Gx.of X) W As σ H Q) (f : ∀ v H', Q v H' → Q' v H') : tevA (Gx.of X) W As σ H Q' := by
  obtain ⟨m, ρ, S, R, h⟩ := h
  refine ⟨m, ρ, S, R, ?_⟩
  revert h
  cases As ρ S with
  | err c f S => exact fun z => z
  | bad => exact fun z => z
  | ok x S1 => exact fun h m1 H1 u e s r => f _ _ (h m1 H1 u e s r)
theorem s_par {i j : Nat} {x y : Str} {px py pt : Pos} {kt k2 pt2} (hc : X.calm = true) (hN : X.N.Nodup) (hij : i ≠ j) (ha : PAv X W [a, b] As)
    (hw : swappedStores [.Tuple [.Name x px, .Name y py] kt pt] (.Tuple [a, b] k2 pt2) X.env = pure (some [x, y]) := by rfl) (hi : X.N[i]? = some x := by rfl) (hj : X.N[j]? = some y := by rfl)
    (hx : X.env.scope.names.lookup x = some .local := by rfl) (hy : X.env.scope.names.lookup y = some .local := by rfl)
    (hs : swapsWithSole [.Tuple [.Name x px, .Name y py] kt pt] (.Tuple [a, b] k2 pt2) pos.line X.env = pure false := by rfl) : PSv X W (.Assign [.Tuple [.Name x px, .Name y py] kt pt] (.Tuple [a, b] k2 pt2) pos) (dPar i j As) :=
  PS.imp (ps_par (pos := pos) hc hN hi hj hij hx hy ha hw hs) fun D σ H h => tevA_get (tevSA_top (k := fun ρ xs S1 => match xs with | [x, y] => .next ((ρ.set i (some x)).set j (some y)) S1 | _ => .bad) h) fun us H1 ⟨m1, S1, xs, ρ, R, r, h⟩ => by
    split at h
    · obtain ⟨u, us, rfl, r1, u2, us2, rfl, r2, r3⟩ := r
      cases r3
      exact ⟨u, u2, rfl, h m1 H1 _ (Ext.refl _ _) ((R.set i r1).set j r2)⟩
    · exact h.elim
end
end Mi
set_option maxHeartbeats 4000000
namespace Mi
open PySem PySem.Spec PyProof.Rows L2
section
variable {P : Program} {w : World} {K : PySem.W.Frag} {m m' : Mp} {H H' : Hp} {mg : Str → Option Value}
theorem take_get {α : Type} {l : List α} {n i : Nat} {x : α} (h : (l.take n)[i]? = some x) : l[i]? = some x := by
  rw [List.getElem?_take] at h
  split at h
  · exact h
  · cases h
/-- the first n shared objects -/
abbrev Mp.take (m : Mp) (n : Nat) : Mp := { m with st := m.st.take n }
theorem RepS.take {S : Sto} (r : RepS P w K m H S) (n : Nat) : RepS P w K (m.take n) H (S.take n) where
  av := fun a h => ⟨fun z => (r.av a h).1 (List.mem_of_mem_take z), (r.av a h).2⟩
  tabs := r.tabs
  len := by simp [r.len]
  nd := fun i j a hi hj => r.nd i j a (take_get hi) (take_get hj)
  ob := fun l o e => by
    have hl : l < n := by
      have := (List.getElem?_eq_some_iff.mp e).1
      simp at this; omega
    have g : Go P w K m H (m.take n) H := Go.less fun a h => h.imp List.mem_of_mem_take id
    rw [show (m.take n).st[l]? = m.st[l]? from List.getElem?_take_of_lt hl]
    rcases r.ob l o (take_get e) with q | ⟨a, ea, q⟩
    · exact .inl q
    · refine .inr ⟨a, ea, ?_⟩
      cases o with
      | lst xs => obtain ⟨us, e1, q⟩ := q; exact ⟨us, e1, Reps.go g xs us q⟩
      | dct kvs => obtain ⟨xs, e1, y, z, d, q⟩ := q; exact ⟨xs, e1, y, z, d, RepK.go g kvs xs.l q⟩
      | dead => exact q
      | tab _ _ => exact q
theorem Ext.take (e : Ext m H m' H') {n : Nat} (hn : m.st.length ≤ n) : Ext m H (m'.take n) H' :=
  ⟨e.keep, fun a h => e.fresh a (List.mem_of_mem_take h), e.frA, e.avs, e.tbs, by have := e.len; simp; omega, fun l a hl h => e.pre l a hl (take_get h)⟩
theorem RepV.take {x : Val} {v : V} (h : RepV P w K m H mg x v) {n : Nat} (hn : ∀ l, x = .loc l → l < n) : RepV P w K (m.take n) H mg x v := by
  have g : Go P w K m H (m.take n) H := Go.less fun a h => h.imp List.mem_of_mem_take id
  cases x with
  | pv p => exact Rep.go g p v h
  | loc l => exact ⟨by have := hn l rfl; have := h.1; simp; omega, fun a ha => h.2 a (take_get ha)⟩
  | fn x => exact h
  | ro xs =>
    obtain ⟨a, us, e1, q, r⟩ := h
    refine ⟨a, us, e1, ?_, Reps.go g xs us r⟩
    rcases q with ⟨q, n⟩ | q
    · exact .inl ⟨q, fun z => n (z.imp List.mem_of_mem_take id)⟩
    · exact .inr q
end
section
variable {G : Gx}
theorem leave_ok {E : XK} {m m' : Mp} {H H' : Hp} {v : Val} {S S1 : Sto} {u : V} {Q : VK} (h : PostF G E m H (leave S.length v S1) Q) (hS : m.st.length = S.length) (e : Ext m H m' H') (s : RepS G.P G.w G.K m' H' S1) (r : RepV G.P G.w G.K m' H' G.mg v u) : Q u H' := by
  have gen : ∀ n, S.length ≤ n → (∀ l, v = .loc l → l < n) → PostF G E m H (.ok v (S1.take n)) Q → Q u H' := fun n hn hl h =>
    h _ H' u (e.take (n := n) (by omega)) (s.take n) (r.take hl)
  cases v with
  | loc l =>
    unfold leave at h
    simp only at h
    split at h
    · exact gen _ (Nat.le_refl _) (fun l' z => by cases z; assumption) h
    · split at h
      · rename_i z
        exact gen (S.length + 1) (Nat.le_succ _) (fun l' z' => by cases z'; omega) h
      · exact h.elim
  | pv p => exact gen _ (Nat.le_refl _) (fun l z => by cases z) h
  | fn p => exact gen _ (Nat.le_refl _) (fun l z => by cases z) h
  | ro p => exact gen _ (Nat.le_refl _) (fun l z => by cases z) h
theorem repE_start {P : Program} {w : World} {K : PySem.W.Frag} {mg : Str → Option Value} {m : Mp} {H : Hp} {N : List Str} {xs : List Val} {vs : List V} {k : Nat} (hk : xs.length = k) (h : RepVs P w K m H mg xs vs) :
    RepE P w K m H mg (xs.map some ++ List.replicate (N.length - k) none) (L2.start N vs) := by
  have hl := RepVs.length h
  refine ⟨by unfold L2.start; simp [← hl, hk], fun i x e => ?_⟩
  by_cases hi : i < xs.length
  · rw [List.getElem?_append_left (by simpa using hi)] at e
    unfold L2.start
    rw [List.getElem?_append_left (by simpa [← hl] using hi)]
    rw [List.getElem?_map] at e ⊢
    have at_ : ∀ {xs : List Val} {vs : List V} (i : Nat) {x : Val}, RepVs P w K m H mg xs vs → xs[i]? = some x → ∃ v, vs[i]? = some v ∧ RepV P w K m H mg x v := by
      intro xs
      induction xs with
      | nil => intro vs i x h e; simp at e
      | cons y ys ih =>
        rintro vs i x ⟨u, r, rfl, h1, h2⟩ e
        cases i with
        | zero => simp at e; subst e; exact ⟨u, rfl, h1⟩
        | succ i => simp at e; obtain ⟨v, e1, r1⟩ := ih i h2 e; exact ⟨v, by simpa using e1, r1⟩
    cases e2 : xs[i]? with
    | none => rw [e2] at e; cases e
    | some y =>
      rw [e2] at e; cases e
      obtain ⟨v, e1, r1⟩ := at_ i h e2
      exact ⟨v, by rw [e1]; rfl, r1⟩
  · rw [List.getElem?_append_right (by simpa using Nat.le_of_not_lt hi), List.getElem?_replicate] at e
    split at e <;> cases e
/-- THE RULE for a def: its body's derivation gives its promise -/
theorem fnok {P : Program} {w : World} {K : PySem.W.Frag} {mg : Str → Option Value} {base : Heap} {x qual : Str} {st : Stmt} {f : Addr} {fd : FuncData} {N ps : List Str} {k : Nat} {B : DS} (F : Fun K x qual st f fd) (S : FnScope N ps (defScope st))
    (hbody : ∀ (A : Around) (outer : List Env) (s : Shared) (H : Hp) (E : XK), Room k (A.deeper (envOfC qual (defScope st) s.heap.objs.size f fd.code)) → L2N.Takes (cxOf (L2N.CX P w) P w K mg base N qual (defScope st) f fd.code A outer s H E) (fun cls d _ H => E cls d H) →
      PSs (cxOf (L2N.CX P w) P w K mg base N qual (defScope st) f fd.code A outer s H E) (defBody st) (tevS ⟨P, w, K, mg⟩ (fun cls d _ H => E cls d H) B)) :
    FnOk P w K mg base (L2N.CX P w) (k + 1) f fd ps (spF ⟨P, w, K, mg⟩ ps.length (dFun ps.length N.length B)) := by
  obtain ⟨oc, od, kV, doc, pm, an, cdv, ct, osl, rfl, lk, hcd⟩ := F.ex
  refine fn_of lk hcd S (fun vs H Q E h => h.1) fun A outer s H vs Q E hr ⟨hl, m, S0, xs, rv, rs, h⟩ => ?_
  have tk : L2N.Takes (cxOf (L2N.CX P w) P w K mg base N qual (defScope st) f cdv A outer s H E) (fun cls d _ H => E cls d H) := L2N.takes_of rfl rfl rfl rfl
  refine ⟨_, hbody A outer s H E hr tk, ?_⟩
  have hx : xs.length = ps.length := by rw [RepVs.length rv]; exact hl
  unfold dFun at h
  rw [if_pos hx] at h
  refine ⟨m, _, S0, ⟨repE_start hx rv, rs⟩, ?_⟩
  revert h
  cases B (xs.map some ++ List.replicate (N.length - ps.length) none) S0 with
  | next ρ S1 => exact fun h m' H' σ e R => leave_ok (G := ⟨P, w, K, mg⟩) (u := .non) (v := .pv .none) (S1 := S1) h rs.len e R.s rfl
  | ret v S1 => exact fun h m' H' u e s r => leave_ok (G := ⟨P, w, K, mg⟩) (v := v) (S1 := S1) h rs.len e s r
  | brk ρ S1 => exact fun h => h.elim
  | cnt ρ S1 => exact fun h => h.elim
  | err c f ρ S1 => exact fun h m' H' σ cls d e R r => h _ H' cls d (e.take (n := S0.length) (by rw [rs.len]; exact Nat.le_refl _)) (R.s.take _) (by
      obtain ⟨C, h1, h2, h3⟩ := r
      refine ⟨C, h1, h2, ?_⟩
      cases f with
      | none => exact h3
      | some np => obtain ⟨dx, v, a, b, c⟩ := h3; exact ⟨dx, v, a, b, Rep.go (Go.less (m := m') (m' := Mp.take m' S0.length) fun a (h : some a ∈ List.take S0.length m'.st ∨ a ∈ m'.av) => h.imp List.mem_of_mem_take id) _ _ c⟩)
  | bad => exact fun h => h.elim
end
end Mi
set_option maxHeartbeats 4000000
namespace Mi
open PySem PySem.Spec PyProof.Rows L2
abbrev DI := En → Sto → Res (List Val)
/-- what a for walks: the items, whatever the shared objects do -/
def JOk (G : Gx) (J : It) (m1 : Mp) (H1 : Hp) (items : List Val) : Prop := ∀ i m H, Ext m1 H1 m H → MOk m H → (i < items.length → J.go i H) ∧ (items.length ≤ i → J.stop i H) ∧
  ∀ x H', i < items.length → J.yld i H x H' → (∀ a o, H a = some o → H' a = some o) ∧ ∃ it, items[i]? = some it ∧ RepV G.P G.w G.K m H' G.mg it x
def PostI (G : Gx) (W : WX) (σ : L2.St) (m : Mp) (H : Hp) (r : Res (List Val)) (R : It → Hp → Prop) : Prop := match r with
  | .ok xs S => ∀ m' H' J, Ext m H m' H' → RepS G.P G.w G.K m' H' S → JOk G J m' H' xs → R J H'
  | .err c f S => ∀ m' H' cls d, Ext m H m' H' → RepS G.P G.w G.K m' H' S → RepX G m' H' c f cls d → W cls d σ H'
  | .bad => False
def tevI (G : Gx) (W : WX) (D : DI) : TI := fun σ H R => ∃ m ρ S, Rd0 G m ρ S σ H ∧ PostI G W σ m H (D ρ S) R
abbrev PIv (X : Cx) (W : WX) (tg e : Expr) (D : DI) : Prop := PI X tg e (tevI (Gx.of X) W D)
/-- a for's turns -/
def loopF (g : DG) (B : DS) : List Val → En → Sto → SR
  | [], ρ, S => .next ρ S
  | x :: xs, ρ, S => match g x ρ with
    | none => .bad
    | some ρ1 => match B ρ1 S with
      | .next ρ2 S2 => loopF g B xs ρ2 S2
      | .cnt ρ2 S2 => loopF g B xs ρ2 S2
      | .brk ρ2 S2 => .next ρ2 S2
      | r => r
def dFor (I : DI) (g : DG) (B : DS) : DS := fun ρ S => (I ρ S).s ρ fun xs S1 => loopF g B xs ρ S1
/-- a while's turns, n of them at most -/
def loopW (T : DT) (B : DS) : Nat → En → Sto → SR
  | 0, _, _ => .bad
  | n + 1, ρ, S => (T ρ S).s ρ fun b S1 => if b = true then (match B ρ S1 with
      | .next ρ2 S2 => loopW T B n ρ2 S2
      | .cnt ρ2 S2 => loopW T B n ρ2 S2
      | .brk ρ2 S2 => .next ρ2 S2
      | r => r) else .next ρ S1
def dWhile (n : Nat) (T : DT) (B : DS) : DS := fun ρ S => loopW T B n ρ S
def itemsOf : Val → Option (List Val)
  | .pv (.list xs) => some (xs.map .pv)
  | .pv (.tuple xs) => some (xs.map .pv)
  | .pv (.dict kvs) => some (kvs.map fun kv => .pv kv.1)
  | .ro xs => some (xs.map .pv)
  | _ => none
def dItems (A : DE) : DI := fun ρ S => (A ρ S).bind fun x S1 => match itemsOf x with
  | some xs => .ok xs S1
  | none => .bad
def rngRaw (lo hi : Int) (S : Sto) : Res (List Val) := if decide (-(2 ^ 62) ≤ lo) && decide (lo < 2 ^ 62) && decide (-(2 ^ 62) ≤ hi) && decide (hi < 2 ^ 62) then .ok ((List.range (hi - lo).toNat).map fun i => Val.pv (.int (lo + (i : Nat)))) S else .bad
theorem rng_ex : ∃ f : Int → Int → Sto → Res (List Val), f = rngRaw := ⟨rngRaw, rfl⟩
/-- a range's items: sealed, so that no check unfolds its bounds -/
noncomputable def rngOf : Int → Int → Sto → Res (List Val) := Classical.choose rng_ex
theorem rngOf_eq (lo hi : Int) (S : Sto) : rngOf lo hi S = rngRaw lo hi S := congrFun (congrFun (congrFun (Classical.choose_spec rng_ex) lo) hi) S
noncomputable def dRng1 (A : DE) : DI := fun ρ S => (A ρ S).bind fun x S1 => match x with
  | .pv (.int j) => rngOf 0 j S1
  | _ => .bad
noncomputable def dRng2 (A B : DE) : DI := fun ρ S => (A ρ S).bind fun x S1 => (B ρ S1).bind fun y S2 => match x, y with
  | .pv (.int i), .pv (.int j) => rngOf i j S2
  | _, _ => .bad
section
variable {X : Cx} {W : WX} {pos : Pos} {A B C : DE} {a b c tg : Expr} {es rest : List Expr} {As : DA} {T T' : DT} {Bs Cs : DS} {st : Stmt} {sts sts' : List Stmt} {g : DG} {Is : DI}
theorem PI.imp {t t' : TI} (h : PI X tg a t) (f : ∀ σ H Q, t' σ H Q → t σ H Q) : PI X tg a t' := ⟨fun pins s σ H Q I q => h.run pins s σ H Q I (f σ H Q q)⟩
theorem PostI.ext {G : Gx} {σ : L2.St} {m m' : Mp} {H H' : Hp} {r : Res (List Val)} {R : It → Hp → Prop} (h : PostI G W σ m H r R) (e : Ext m H m' H') : PostI G W σ m' H' r R := by
  cases r with
  | ok p S => exact fun m2 H2 v e2 s => h m2 H2 v (e.trans e2) s
  | err c f S => exact fun m2 H2 cls d e2 s r => h m2 H2 cls d (e.trans e2) s r
  | bad => exact h
/-- a value, then what is walked -/
theorem tevI_top {k : Val → Sto → Res (List Val)} {σ : L2.St} {H : Hp} {R : It → Hp → Prop} (h : tevI (Gx.of X) W (fun ρ S => (A ρ S).bind k) σ H R) :
    tev (Gx.of X) W A σ H fun u H1 => ∃ m1 S1 x, RepS X.prog X.w X.K m1 H1 S1 ∧ RepV X.prog X.w X.K m1 H1 X.mg x u ∧ PostI (Gx.of X) W σ m1 H1 (k x S1) R := by
  obtain ⟨m, ρ, S, R0, h⟩ := h
  refine ⟨m, ρ, S, R0, ?_⟩
  have h : PostI (Gx.of X) W σ m H ((A ρ S).bind k) R := h
  revert h
  cases A ρ S with
  | err c f S => exact fun z => z
  | bad => exact fun z => z
  | ok x S1 => exact fun h m1 H1 u e s r => ⟨m1, S1, x, s, r, PostI.ext (G := Gx.of X) h e⟩
theorem jok_list {m1 : Mp} {H1 : Hp} {a : Addr} {us : List V} {ps : List PyData} (hl : H1 a = some (.lst us)) (na : ¬ m1.has a) (mo : MOk m1 H1) (r : Reps X.prog X.w X.K m1 H1 ps us) : JOk (Gx.of X) (Itl X.K a) m1 H1 (ps.map .pv) := by
  intro i m H e mo'
  have hl' : H a = some (.lst us) := e.keep a _ hl (fun z => na (.inl z)) fun _ z => by cases z
  have r' := Reps.go (Go.of (P := X.prog) (w := X.w) (K := X.K) mo e) _ _ r
  have hlen := Reps.length r'
  refine ⟨fun hi => ?_, fun hi => ⟨us, SqL.of hl', by rw [← hlen]; simpa using hi⟩, fun x H' hi ⟨e1, e2⟩ => ?_⟩
  · have hi' : i < us.length := by rw [← hlen]; simpa using hi
    exact ⟨us, us[i], SqL.of hl', List.getElem?_eq_getElem hi'⟩
  · subst e1
    refine ⟨fun _ _ h => h, ?_⟩
    have hi' : i < ps.length := by simpa using hi
    obtain ⟨u, e3, r3⟩ := Reps.get i r' (List.getElem?_eq_getElem hi')
    have e4 := e2 us (SqL.of hl')
    rw [e3] at e4; cases e4
    exact ⟨.pv ps[i], by simp [hi'], r3⟩
theorem jok_tup {m1 : Mp} {H1 : Hp} {a : Addr} {us : List V} {ps : List PyData} (hl : SqT X.K H1 a us) (mo : MOk m1 H1) (r : Reps X.prog X.w X.K m1 H1 ps us) : JOk (Gx.of X) (Itt X.K a) m1 H1 (ps.map .pv) := by
  intro i m H e mo'
  have gg := Go.of (P := X.prog) (w := X.w) (K := X.K) mo e
  have hl' : SqT X.K H a us := gg.tup a us hl
  have r' := Reps.go gg _ _ r
  have hlen := Reps.length r'
  refine ⟨fun hi => ?_, fun hi => ⟨us, hl', by rw [← hlen]; simpa using hi⟩, fun x H' hi ⟨e1, e2⟩ => ?_⟩
  · have hi' : i < us.length := by rw [← hlen]; simpa using hi
    exact ⟨us, us[i], hl', List.getElem?_eq_getElem hi'⟩
  · subst e1
    refine ⟨fun _ _ h => h, ?_⟩
    have hi' : i < ps.length := by simpa using hi
    obtain ⟨u, e3, r3⟩ := Reps.get i r' (List.getElem?_eq_getElem hi')
    have e4 := e2 us hl'
    rw [e3] at e4; cases e4
    exact ⟨.pv ps[i], by simp [hi'], r3⟩
theorem jok_rng {m1 : Mp} {H1 : Hp} {lo : Int} {n : Nat} : JOk (Gx.of X) (Itr lo n) m1 H1 ((List.range n).map fun i => Val.pv (.int (lo + (i : Nat)))) := by
  intro i m H e mo'
  refine ⟨fun hi => by show i < n; simpa using hi, fun hi => by show n ≤ i; simpa using hi, fun x H' hi ⟨e1, e2⟩ => ?_⟩
  subst e1 e2
  exact ⟨fun _ _ h => h, .pv (.int (lo + (i : Nat))), by simp at hi ⊢; exact ⟨i, by simp [hi]⟩, rfl⟩
/-- the keys of a dict, in their order -/
def ItD (P : Program) (w : World) (d : Addr) (xs : DX) : It :=
  ⟨fun i H => H d = some (DictO P w d xs) ∧ i < xs.l.length, fun i H x H' => H' = H ∧ ∃ nk q u, xs.l[i]? = some (nk, q, u) ∧ x = .ref q, fun i H => H d = some (DictO P w d xs) ∧ xs.l.length ≤ i⟩
theorem turn_dict {P : Program} {w : World} {K : PySem.W.Frag} {d : Addr} (it : Addr) (xs : DX) : Turn P w K tg (ItD P w d xs) [it] it (fun i h => h.IsKeyIter it d i xs.l.length xs.ep) where
  mem := by simp
  obj := fun i h st b hb => by
    have e : b = it := by simpa using hb
    subst e
    obtain ⟨oi, e, c, dd⟩ := st
    exact ⟨oi, e, fun v z => by rw [dd] at z; cases z⟩
  keep := fun i h h' st k => st.at fun oi e => k it (by simp) oi e
  item := by
    intro X hP hw hK hc i pins s σ H E I hf st hg
    subst hP hw hK
    obtain ⟨hd, hi⟩ := hg
    obtain ⟨f0, f1, f2, f3, f4, f5⟩ := hf it (by simp)
    obtain ⟨⟨o, es, hgd, hx, hdt, he⟩, _⟩ := (show ObjOk X.prog X.w H s.heap d (DictO X.prog X.w d xs) from I.hok d _ hd)
    have hsz : es.size = xs.l.length := size_of_entries he
    obtain ⟨⟨nk, q, u⟩, hkv⟩ : ∃ p, xs.l[i]? = some p := ⟨xs.l[i], List.getElem?_eq_getElem hi⟩
    have hen := entry_at he i
    rw [hkv] at hen
    refine next_key_item st hgd hdt hsz hen fun h' st' sb => ?_
    have I1 : Inv X pins σ H { s with heap := h' } := I.turned (t' := s.toks) (fun b ob hb e => (sb.2 b hb).trans e) f0 f1 f3 f4 f5
    obtain ⟨oi, e, c, dd⟩ := id st'
    exact ⟨_, rfl, go_of (s := { s with heap := h' }) e c dd (by decide) ⟨.ref q, H, I1, rfl, ⟨rfl, nk, q, u, hkv, rfl⟩, st', fun b hb => (hf b hb).1⟩⟩
  done := by
    intro X hP hw hK hc i pins s σ H E I hf st hg
    subst hP hw hK
    obtain ⟨hd, hi⟩ := hg
    obtain ⟨f0, f1, f2, f3, f4, f5⟩ := hf it (by simp)
    obtain ⟨⟨o, es, hgd, hx, hdt, he⟩, _⟩ := (show ObjOk X.prog X.w H s.heap d (DictO X.prog X.w d xs) from I.hok d _ hd)
    have hsz : es.size = xs.l.length := size_of_entries he
    exact next_key_end (I.ok.hd hc) st hgd hdt hsz hi fun h' eb => ⟨rfl, I.turned (t' := s.toks) (fun b ob hb e => eb b ob hb e) f0 f1 f3 f4 f5⟩
  self := fun A i s Q E st h => by
    refine wpAny_pyIter_slot st.typeIs F.slot_dict_keyiterator_iter (wpAny_call_entry F.slot_dict_keyiterator_iter st.typeIs F.entry_dict_keyiterator_iter ?_ (F.args_dict_keyiterator_iter_1 _))
    show wpAny _ _ (ret (.ref it)) _ _ s
    exact wpAny_pure ⟨_, rfl, "dict_keyiterator", _, st.typeIs, F.slot_dict_keyiterator_next.lookup, h⟩
theorem repK_get {P : Program} {w : World} {K : PySem.W.Frag} {m : Mp} {H : Hp} : ∀ {kvs : List (PyData × PyData)} {xs : List (NestedKey × Addr × Value)} (i : Nat) {kv : PyData × PyData}, RepK P w K m H kvs xs → kvs[i]? = some kv → ∃ nk q u, xs[i]? = some (nk, q, u) ∧ Rep P w K m H kv.1 (.ref q)
  | [], _, i, _, _, e => by simp at e
  | (k, v) :: kvs, _, 0, _, ⟨nk, ka, u, uv, r, e, e1, e2, h1, e3, h2, h3⟩, q => by subst e; simp at q; subst q; exact ⟨nk, ka, u, rfl, h1⟩
  | (k, v) :: kvs, _, i + 1, _, ⟨nk, ka, u, uv, r, e, e1, e2, h1, e3, h2, h3⟩, q => by
    subst e
    obtain ⟨a, b, c, e5, e6⟩ := repK_get i h3 (by simpa using q)
    exact ⟨a, b, c, by simpa using e5, e6⟩
theorem repK_len {P : Program} {w : World} {K : PySem.W.Frag} {m : Mp} {H : Hp} : ∀ {kvs : List (PyData × PyData)} {xs : List (NestedKey × Addr × Value)}, RepK P w K m H kvs xs → kvs.length = xs.length
  | [], _, h => by cases h; rfl
  | (k, v) :: kvs, _, ⟨nk, ka, u, uv, r, e, e1, e2, h1, e3, h2, h3⟩ => by subst e; simp [repK_len h3]
theorem jok_dict {m1 : Mp} {H1 : Hp} {a : Addr} {xs : DX} {kvs : List (PyData × PyData)} (hl : H1 a = some (DictO X.prog X.w a xs)) (na : ¬ m1.has a) (mo : MOk m1 H1) (r : RepK X.prog X.w X.K m1 H1 kvs xs.l) : JOk (Gx.of X) (ItD X.prog X.w a xs) m1 H1 (kvs.map fun kv => .pv kv.1) := by
  intro i m H e mo'
  have gg := Go.of (P := X.prog) (w := X.w) (K := X.K) mo e
  have hl' := (gg.dct a xs hl na).1
  have r' := RepK.go gg _ _ r
  have hlen := repK_len r'
  refine ⟨fun hi => ⟨hl', by rw [← hlen]; simpa using hi⟩, fun hi => ⟨hl', by rw [← hlen]; simpa using hi⟩, fun x H' hi ⟨e1, nk, q, u, e2, e3⟩ => ?_⟩
  subst e1 e3
  refine ⟨fun _ _ h => h, ?_⟩
  have hi' : i < kvs.length := by simpa using hi
  obtain ⟨nk', q', u', e4, r4⟩ := repK_get i r' (List.getElem?_eq_getElem hi')
  rw [e2] at e4; cases e4
  exact ⟨.pv kvs[i].1, by simp [hi'], r4⟩
/-- a list or a tuple walked -/
theorem i_seq (ha : PEv X W a A) : PIv X W tg a (dItems A) := by
  refine ⟨fun pins s σ H R I h => ?_⟩
  refine thn (ha.run pins s σ H _ I (tevI_top h)) fun v s1 ⟨x, H1, I1, r1, m1, S1, y, rs, ry, q⟩ => ?_
  split at q
  · rename_i xs e
    have lst : ∀ {a : Addr} {us : List V}, x = .ref a → SqL X.K H1 a us → JOk (Gx.of X) (Itl X.K a) m1 H1 xs → wpAny (model X.prog X.w) X.A (pyIter v) (PIE X pins σ tg R) X.xe s1 := by
      intro a us ex hq jo
      subst ex
      cases r1
      obtain ⟨its, rv, p, hz⟩ := I1.list hq
      refine wpAny_pyIter_list p.isList ?_
      refine ⟨s1.heap.objs.size, [s1.heap.objs.size], _, _, H1, rfl, I1.kept (t' := s1.toks) fun b o e => Heap.get?_push_of_some _ e, turn_list a _, ⟨_, Heap.get?_push_size _ rfl, rfl, rfl⟩, fun b hb => ?_, q m1 H1 _ (Ext.refl _ _) rs jo⟩
      have e : b = s1.heap.objs.size := by simpa using hb
      subst e
      exact I1.fpOk (Nat.le_refl _) (I1.hok.fresh (Nat.le_refl _))
    cases y with
    | pv p =>
      cases p with
      | list ps =>
        cases e
        obtain ⟨a, us, ex, hl, na, hr⟩ := ry
        exact lst ex (SqL.of hl) (jok_list hl na rs.mok hr)
      | tuple ps =>
        cases e
        obtain ⟨a, us, ex, hl, hr⟩ := ry
        subst ex
        cases r1
        obtain ⟨its, rv, p, hz⟩ := I1.tuple hl
        refine wpAny_pyIter_tuple (show s1.heap.IsTuple a its.toArray from p) ?_
        refine ⟨s1.heap.objs.size, [s1.heap.objs.size], _, _, H1, rfl, I1.kept (t' := s1.toks) fun b o e => Heap.get?_push_of_some _ e, turn_tuple a _, ⟨_, Heap.get?_push_size _ rfl, rfl, rfl⟩, fun b hb => ?_, q m1 H1 _ (Ext.refl _ _) rs (jok_tup hl rs.mok hr)⟩
        have e : b = s1.heap.objs.size := by simpa using hb
        subst e
        exact I1.fpOk (Nat.le_refl _) (I1.hok.fresh (Nat.le_refl _))
      | dict kvs =>
        cases e
        obtain ⟨a, ds, ex, na, hl, hy, hz, hn, hr⟩ := ry
        subst ex
        obtain rfl : v = Value.ref a := r1
        obtain ⟨⟨o, es, hgd, hx, hdt, he⟩, _⟩ := (show ObjOk X.prog X.w H1 s1.heap a (DictO X.prog X.w a ds) from I1.hok a _ hl)
        have hsz : es.size = ds.l.length := size_of_entries he
        refine iter_keys hy hgd hx hdt (pi_one (tk := s1.toks) I1 _ (turn_dict _ ds) ⟨_, Heap.get?_push_size _ rfl, rfl, ?_⟩ (q m1 H1 _ (Ext.refl _ _) rs (jok_dict hl na rs.mok hr)))
        rw [hsz] <;> rfl
      | _ => cases e
    | ro ps =>
      cases e
      obtain ⟨a, us, ex, hl, hr⟩ := ry
      refine lst ex (by rcases hl with ⟨hl, _⟩ | hl; exact .inl hl; exact hl H1) ?_
      intro i m H e mo'
      have hl' : SqL X.K H a us := by
        rcases hl with ⟨hl, n⟩ | hl
        · rcases hl with hl | ⟨o, hl⟩
          · exact SqL.of (e.keep a _ hl (fun z => n (.inl z)) fun _ z => by cases z)
          · exact .inl (.inr ⟨o, e.keep a _ hl (fun z => n (.inl z)) fun _ z => by cases z⟩)
        · exact hl H
      have r' := Reps.go (Go.of (P := X.prog) (w := X.w) (K := X.K) rs.mok e) _ _ hr
      have hlen := Reps.length r'
      refine ⟨fun hi => ?_, fun hi => ⟨us, hl', by rw [← hlen]; simpa using hi⟩, fun x H' hi ⟨e1, e2⟩ => ?_⟩
      · have hi' : i < us.length := by rw [← hlen]; simpa using hi
        exact ⟨us, us[i], hl', List.getElem?_eq_getElem hi'⟩
      · subst e1
        refine ⟨fun _ _ h => h, ?_⟩
        have hi' : i < ps.length := by simpa using hi
        obtain ⟨u, e3, r3⟩ := Reps.get i r' (List.getElem?_eq_getElem hi')
        have e4 := e2 us hl'
        rw [e3] at e4; cases e4
        exact ⟨.pv ps[i], by simp [hi'], r3⟩
    | _ => cases e
  · exact q.elim
theorem i_rng1 {p : Pos} (hm : X.mg "range" = none) (ha : PEv X W a A) (hg : Gl X "range" := by rfl) (hs : starEach [a] X.env = [(false, eval a X.env)] := by rfl) : PIv X W tg (.Call (.Name "range" p) [a] [] pos) (dRng1 A) :=
  PI.imp (pi_range1 hg hm (pa_cons ha pa_nil hs) hs) fun σ H R h => tev_get (tevI_top h) fun u H1 ⟨m1, S1, x, s, r, q⟩ => by
    split at q
    · rename_i j
      rw [rngOf_eq] at q
      unfold rngRaw at q
      split at q
      · rename_i hz
        simp only [Bool.and_eq_true, decide_eq_true_eq] at hz
        cases r
        exact ⟨j, rfl, hz.1.2, hz.2, by simpa using q m1 H1 _ (Ext.refl _ _) s jok_rng⟩
      · exact q.elim
    · exact q.elim
/-- THE RULE for a for -/
theorem s_for (hp : PassesOwn (model X.prog X.w) X.A X.env X.xe) (hc : X.calm = true) (hi : PIv X W tg a Is) {ws : List Nat} (hg : PGv X ws tg g) (hb : PSsv X W sts Bs) (hs : ∀ x, foldedSetIterable a X.env x = pure x := by intro _; rfl) : PSv X W (.For tg a sts [] pos) (dFor Is g Bs) := PS.imp (ps_for hp hc hi hg hb hs) fun D σ H ⟨m, ρ, S, R, h⟩ => by
  refine ⟨m, ρ, S, R, ?_⟩
  unfold dFor at h
  revert h
  cases Is ρ S with
  | err c f S1 => exact fun h m' H' cls d e s r => h m' H' σ cls d e (R.ext e s) r
  | bad => exact fun z => z
  | ok xs S1 =>
    intro h m1 H1 J e1 s1 jo
    refine ⟨fun i n σ H => n = xs.length - i ∧ i ≤ xs.length ∧ ∃ m ρ S, Ext m1 H1 m H ∧ Rd0 (Gx.of X) m ρ S σ H ∧ PostS (Gx.of X) W m H (loopF g Bs (xs.drop i) ρ S) D, ⟨xs.length, by simp, Nat.zero_le _, m1, ρ, S1, Ext.refl _ _, R.ext e1 s1, by simpa using PostS.ext (G := Gx.of X) h e1⟩, ?_⟩
    rintro i n σ2 H2 ⟨rfl, hi, m2, ρ2, S2, e2, R2, h2⟩
    obtain ⟨j1, j2, j3⟩ := jo i m2 H2 e2 R2.s.mok
    by_cases hlt : i < xs.length
    · refine .inr ⟨j1 hlt, fun σ H => ∃ m ρ S, Ext m1 H1 m H ∧ Rd0 (Gx.of X) m ρ S σ H ∧ PostS (Gx.of X) W m H (loopF g Bs (xs.drop (i + 1)) ρ S) D, fun σ' H' z => ⟨xs.length - (i + 1), by omega, rfl, hlt, z⟩, fun x H' hy => ?_⟩
      obtain ⟨k, it, ei, ri⟩ := j3 x H' hlt hy
      have ex3 : Ext m2 H2 m2 H' := Ext.same k
      have R3 : Rd0 (Gx.of X) m2 ρ2 S2 σ2 H' := R2.ext ex3 (R2.s.same k)
      have hd : xs.drop i = it :: xs.drop (i + 1) := by
        obtain ⟨_, hx⟩ := List.getElem?_eq_some_iff.mp ei
        rw [← hx]; exact List.drop_eq_getElem_cons hlt
      rw [hd] at h2
      unfold loopF at h2
      split at h2
      · exact h2.elim
      · rename_i ρ3 eg
        refine ⟨m2, ρ2, S2, it, ρ3, R3, ri, eg, fun σ4 R4 _ => ⟨m2, ρ3, S2, R4, ?_⟩⟩
        have e3 := e2.trans ex3
        revert h2
        cases Bs ρ3 S2 with
        | next ρ5 S5 => exact fun h2 m' H'' σ' e R' => ⟨m', ρ5, S5, e3.trans e, R', PostS.ext (G := Gx.of X) h2 (ex3.trans e)⟩
        | cnt ρ5 S5 => exact fun h2 m' H'' σ' e R' => ⟨m', ρ5, S5, e3.trans e, R', PostS.ext (G := Gx.of X) h2 (ex3.trans e)⟩
        | brk ρ5 S5 => exact fun h2 m' H'' σ' e R' => h2 m' H'' σ' (ex3.trans e) R'
        | ret v S5 => exact fun h2 m' H'' u e s r => h2 m' H'' u (ex3.trans e) s r
        | err c f ρ5 S5 => exact fun h2 m' H'' σ' cls d e R' r => h2 m' H'' σ' cls d (ex3.trans e) R' r
        | bad => exact fun z => z
    · have e0 : i = xs.length := by omega
      refine .inl ⟨j2 (by omega), ?_⟩
      rw [e0, List.drop_length] at h2
      exact h2 m2 H2 σ2 (Ext.refl _ _) R2
/-- THE RULE for a while -/
theorem s_while (n : Nat) (hp : PassesOwn (model X.prog X.w) X.A X.env X.xe) (hc : PTv X W a T) (hb : PSsv X W sts Bs) : PSv X W (.While a sts [] pos) (dWhile n T Bs) := PS.imp (ps_while hp hc hb) fun D σ H ⟨m, ρ, S, R, h⟩ => by
  refine ⟨fun k σ H => ∃ m ρ S, Rd0 (Gx.of X) m ρ S σ H ∧ PostS (Gx.of X) W m H (loopW T Bs k ρ S) D, ⟨n, m, ρ, S, R, h⟩, ?_⟩
  rintro k σ2 H2 ⟨m2, ρ2, S2, R2, h2⟩
  cases k with
  | zero => exact h2.elim
  | succ k =>
    unfold loopW at h2
    have h3 := bindT_S (G := Gx.of X) R2 h2
    refine ⟨m2, ρ2, S2, R2, ?_⟩
    revert h3
    cases T ρ2 S2 with
    | err c f S => exact fun z => z
    | bad => exact fun z => z
    | ok x S1 =>
      intro h3 m3 H3 e3 s3
      obtain ⟨m4, S4, e4, s4, h4⟩ := h3 m3 H3 e3 s3
      have R4 := R2.ext e4 s4
      cases x with
      | false => exact h4 m4 H3 σ2 (Ext.refl _ _) R4
      | true =>
        simp only [ite_true] at h4 ⊢
        refine ⟨fun σ H => ∃ m ρ S, Rd0 (Gx.of X) m ρ S σ H ∧ PostS (Gx.of X) W m H (loopW T Bs k ρ S) D, fun σ' H' z => ⟨k, Nat.lt_succ_self _, z⟩, m4, ρ2, S4, R4, ?_⟩
        revert h4
        cases Bs ρ2 S4 with
        | next ρ5 S5 => exact fun h2 m' H'' σ' e R' => ⟨m', ρ5, S5, R', PostS.ext (G := Gx.of X) h2 e⟩
        | cnt ρ5 S5 => exact fun h2 m' H'' σ' e R' => ⟨m', ρ5, S5, R', PostS.ext (G := Gx.of X) h2 e⟩
        | brk ρ5 S5 => exact fun h2 m' H'' σ' e R' => h2 m' H'' σ' e R'
        | ret v S5 => exact fun h2 m' H'' u e s r => h2 m' H'' u e s r
        | err c f ρ5 S5 => exact fun h2 m' H'' σ' cls d e R' r => h2 m' H'' σ' cls d e R' r
        | bad => exact fun z => z
end
end Mi
set_option maxHeartbeats 4000000
namespace Mi
open PySem PySem.Spec PyProof.Rows L2
def wipeE (ρ : En) : List Nat → En
  | [] => ρ
  | v :: vs => (wipeE ρ vs).set v none
def W0 : WX := fun _ _ _ _ => False
/-- a comprehension's turns -/
def loopC (g : DG) (T : DT) (E : DE) (ρ : En) : List Val → List PyData → Sto → Res Val
  | [], acc, S => .ok (.pv (.list acc)) S
  | x :: xs, acc, S => match g x ρ with
    | none => .bad
    | some ρ1 => match T ρ1 S with
      | .ok true S1 => match E ρ1 S1 with
        | .ok (.pv p) S2 => if szOk (acc.length + 1) then loopC g T E ρ xs (acc ++ [p]) S2 else .bad
        | _ => .bad
      | .ok false S1 => loopC g T E ρ xs acc S1
      | _ => .bad
def dLc (I : DI) (vs : List Nat) (g : DG) (T : DT) (E : DE) : DE := fun ρ S => (I ρ S).bind fun xs S1 => loopC g T E (wipeE ρ vs) xs [] S1
def dYes : DT := fun _ S => .ok true S
section
variable {G : Gx}
theorem Rd0.wipe {m : Mp} {ρ : En} {S : Sto} {σ : L2.St} {H : Hp} (R : Rd0 G m ρ S σ H) : ∀ vs : List Nat, Rd0 G m (wipeE ρ vs) S (L2.wipe σ vs) H
  | [] => R
  | v :: vs => by
    have R' := Rd0.wipe R vs
    refine ⟨⟨by show ((wipeE ρ vs).set v none).length = ((L2.wipe σ vs).set v none).length; simp [R'.e.len], fun i x e => ?_⟩, R'.s⟩
    have e : ((wipeE ρ vs).set v none)[i]? = some (some x) := e
    show ∃ u, ((L2.wipe σ vs).set v none)[i]? = some (some u) ∧ _
    by_cases hi : v = i
    · subst hi
      rw [List.getElem?_set] at e
      simp only [ite_true] at e
      split at e <;> cases e
    · rw [List.getElem?_set_ne hi] at e ⊢
      exact R'.e.at_ i x e
theorem wipe_idem (σ : L2.St) (vs : List Nat) : L2.wipe (L2.wipe σ vs) vs = L2.wipe σ vs := by
  have key : ∀ (ws vs : List Nat) (σ : L2.St), (∀ v ∈ ws, v ∈ vs) → L2.wipe (L2.wipe σ ws) vs = L2.wipe σ vs := by
    intro ws
    induction ws with
    | nil => intro vs σ _; rfl
    | cons w ws ih =>
      intro vs σ h
      show L2.wipe ((L2.wipe σ ws).set w none) vs = _
      rw [wipe_setIn (h w List.mem_cons_self)]
      exact ih vs σ fun v hv => h v (List.mem_cons_of_mem _ hv)
  exact key vs vs σ fun _ h => h
end
section
variable {P : Program} {w : World} {K : PySem.W.Frag} {m m' : Mp} {H H' : Hp} {mg : Str → Option Value}
/-- a list that data keep away from is changed -/
theorem Go.updAv {D : Addr} {us : List V} {o : HO} (hD : D ∈ m.av) (e : H D = some (.lst us)) : Go P w K m H m (L2.upd H D o) where
  tup := fun a vs h => SqT.go h fun o' e' _ l _ => by
    rw [upd_ne fun z => by rw [z, e] at e'; cases e'; exact l _ rfl]; exact e'
  lst := fun a vs h n => ⟨by rw [upd_ne (fun z : a = D => n (.inr (by rw [z]; exact hD)))]; exact h, n⟩
  dct := fun a vs h n => ⟨by rw [upd_ne (fun z : a = D => n (.inr (by rw [z]; exact hD)))]; exact h, n⟩
theorem tabs_upd {T : List (Addr × Str)} {D : Addr} {u o : HO} (t : LamX.Tabs T H) (e : H D = some u) (h1 : ∀ ps, u ≠ .tbl ps) (h2 : ∀ c q, u ≠ LamX.CodeO c q) : LamX.Tabs T (L2.upd H D o) := fun p hp => by
  obtain ⟨ps, a1, a2, a3⟩ := t p hp
  refine ⟨ps, by rw [upd_ne fun z => h1 ps (by rw [← z, a1] at e; exact (Option.some.inj e).symm)]; exact a1, a2, fun pos cv hc => ?_⟩
  obtain ⟨c, e1, e2⟩ := a3 pos cv hc
  exact ⟨c, e1, by rw [upd_ne fun z => h2 c p.2 (by rw [← z, e2] at e; exact (Option.some.inj e).symm)]; exact e2⟩
theorem RepS.updAv {S : Sto} {D : Addr} {us : List V} {o : HO} (r : RepS P w K m H S) (hD : D ∈ m.av) (e : H D = some (.lst us)) (ho : ∀ ps, o ≠ .tbl ps := by intro _ z; cases z) : RepS P w K m (L2.upd H D o) S where
  len := r.len
  av := fun a h => ⟨(r.av a h).1, by
    by_cases z : a = D
    · subst z; exact ⟨_, upd_same, ho⟩
    · rw [upd_ne z]; exact (r.av a h).2⟩
  tabs := tabs_upd r.tabs e (fun _ z => by cases z) (fun _ _ z => by unfold LamX.CodeO at z; cases z)
  nd := r.nd
  ob := fun l o' h2 => by
    have g : Go P w K m H m (L2.upd H D o) := Go.updAv hD e
    rcases r.ob l o' h2 with q | ⟨a, h1, q⟩
    · exact .inl q
    refine .inr ⟨a, h1, ?_⟩
    have na : a ≠ D := fun z => (r.av D hD).1 (z ▸ List.mem_of_getElem? h1)
    cases o' with
    | lst xs => obtain ⟨us, e, q⟩ := q; exact ⟨us, by rw [upd_ne na]; exact e, Reps.go g xs us q⟩
    | dct kvs => obtain ⟨xs, e, y, z, d, q⟩ := q; exact ⟨xs, by rw [upd_ne na]; exact e, y, z, d, RepK.go g kvs xs.l q⟩
    | dead => exact q
    | tab _ _ => exact q
theorem RepS.less {S : Sto} (r : RepS P w K m H S) (hs : m'.st = m.st) (ht : m'.tb = m.tb) (h : ∀ a, a ∈ m'.av → a ∈ m.av) : RepS P w K m' H S where
  len := by rw [hs]; exact r.len
  av := fun a ha => by rw [hs]; exact r.av a (h a ha)
  tabs := by rw [ht]; exact r.tabs
  nd := by rw [hs]; exact r.nd
  ob := fun l o' h2 => by
    have g : Go P w K m H m' H := Go.less fun a z => z.elim (fun z => .inl (hs ▸ z)) fun z => .inr (h a z)
    rcases r.ob l o' h2 with q | ⟨a, h1, q⟩
    · refine .inl ⟨?_, by rw [hs]; exact q.2⟩
      cases o' with
      | lst xs => exact q.1
      | dct kvs => exact q.1
      | dead => exact q.1
      | tab P q' => exact ⟨by rw [ht]; exact q.1.1, by rw [ht]; exact q.1.2⟩
    refine .inr ⟨a, by rw [hs]; exact h1, ?_⟩
    cases o' with
    | lst xs => obtain ⟨us, e, q⟩ := q; exact ⟨us, e, Reps.go g xs us q⟩
    | dct kvs => obtain ⟨xs, e, y, z, d, q⟩ := q; exact ⟨xs, e, y, z, d, RepK.go g kvs xs.l q⟩
    | dead => exact q
    | tab _ _ => exact q
/-- .. keep away from D too -/
abbrev Mp.avoid (m : Mp) (D : Addr) : Mp := { m with av := D :: m.av }
/-- .. D is free again -/
abbrev Mp.drop (m : Mp) (D : Addr) : Mp := { m with av := m.av.filter fun a => decide (a ≠ D) }
theorem Mp.drop_not {D : Addr} (r : some D ∉ m.st) : ¬ (m.drop D).has D := fun z => z.elim r fun z => by
  have := (List.mem_filter.mp z).2
  simp at this
end
section
variable {X : Cx} {W : WX} {pos : Pos} {A B C E : DE} {a b c tg iter elt : Expr} {es rest ifs : List Expr} {As : DA} {T T' : DT} {g : DG} {Is : DI} {scope : Scope} {own : List (Str × Nat)}
abbrev PTsv (X : Cx) (W : WX) (e : List Expr) (D : DT) : Prop := PTs X e (tevT (Gx.of X) W D)
theorem ts_nil : PTsv X W [] dYes := ⟨fun pins s σ H Q I ⟨m, ρ, S, R, h⟩ => pts_nil.run pins s σ H Q I (h m H (Ext.refl _ _) R.s)⟩
theorem ts_one (h : PTv X W a T) : PTsv X W [a] T := pts_one h
/-- the comprehension's reading -/
theorem lc_read {σ : L2.St} {H : Hp} {Q : VK} {vs : List Nat} (h : tev (Gx.of X) W (dLc Is vs g T E) σ H Q) : tLc (tevI (Gx.of X) W Is) (tevG (Gx.of X) vs g) (tevT (Gx.of X) W0 T) (tev (Gx.of X) W0 E) vs σ H Q := by
  obtain ⟨m, ρ, S, R, h⟩ := h
  refine ⟨m, ρ, S, R, ?_⟩
  unfold dLc at h
  revert h
  cases Is ρ S with
  | err c f S1 => exact fun z => z
  | bad => exact fun z => z
  | ok xs S1 =>
    intro h m1 H1 J e1 s1 jo D hD
    have h : PostE (Gx.of X) W σ m1 H1 (loopC g T E (wipeE ρ vs) xs [] S1) Q := PostE.ext (G := Gx.of X) h e1
    have R1 := (R.ext e1 s1).wipe vs
    refine ⟨fun i n H => n = xs.length - i ∧ i ≤ xs.length ∧ ∃ (m : Mp) (S : Sto) (acc : List PyData) (us : List V), D ∈ m.av ∧ Ext m1 H1 m H ∧ RepS X.prog X.w X.K m H S ∧ H D = some (.lst us) ∧ Reps X.prog X.w X.K m H acc us ∧
      PostE (Gx.of X) W σ m1 H1 (loopC g T E (wipeE ρ vs) (xs.drop i) acc S) Q, ⟨xs.length, by simp, Nat.zero_le _, m1.avoid D, S1, [], [], List.mem_cons_self, ?_, ?_, upd_same, rfl, by simpa using h⟩, ?_⟩
    · have e := Ext.upd (m := m1) (o := .lst []) hD
      exact ⟨e.keep, e.fresh, fun a ha => by
        rcases List.mem_cons.mp ha with z | z
        · subst z; exact .inr (.of hD)
        · exact .inl (.inr z), fun a ha => List.mem_cons_of_mem _ ha, rfl, e.len, e.pre⟩
    · have s2 : RepS X.prog X.w X.K m1 (upd H1 D (.lst [])) S1 := s1.upd hD
      have nD := s1.notin hD
      have gg : Go X.prog X.w X.K m1 H1 (m1.avoid D) (upd H1 D (.lst [])) := ⟨fun a us q => SqT.go q fun o e _ _ _ => by rw [upd_ne (ne_of_none e hD)]; exact e,
        fun a us q n => ⟨by rw [upd_ne (ne_of_none q hD)]; exact q, fun z => z.elim (fun z => n (.inl z)) fun z => (List.mem_cons.mp z).elim (fun z => by rw [z, hD] at q; cases q) fun z => n (.inr z)⟩,
        fun a us q n => ⟨by rw [upd_ne (ne_of_none q hD)]; exact q, fun z => z.elim (fun z => n (.inl z)) fun z => (List.mem_cons.mp z).elim (fun z => by rw [z, hD] at q; cases q) fun z => n (.inr z)⟩⟩
      refine ⟨s2.len, fun a ha => ?_, s2.tabs, s2.nd, fun l o' h2 => ?_⟩
      · rcases List.mem_cons.mp ha with z | z
        · subst z; exact ⟨fun z => nD (.inl z), _, upd_same, fun _ z => by cases z⟩
        · exact s2.av a z
      · rcases s1.ob l o' h2 with q | ⟨a, h1, q⟩
        · exact .inl q
        refine .inr ⟨a, h1, ?_⟩
        have na : a ≠ D := fun z => nD (.inl (z ▸ List.mem_of_getElem? h1))
        cases o' with
        | lst xs => obtain ⟨us, e, q⟩ := q; exact ⟨us, by rw [upd_ne na]; exact e, Reps.go gg xs us q⟩
        | dct kvs => obtain ⟨xs, e, y, z, d, q⟩ := q; exact ⟨xs, by rw [upd_ne na]; exact e, y, z, d, RepK.go gg kvs xs.l q⟩
        | dead => exact q
        | tab _ _ => exact q
    · rintro i n H2 ⟨rfl, hi, m2, S2, acc, us, hav, e2, s2, hl, ra, h2⟩
      obtain ⟨j1, j2, j3⟩ := jo i m2 H2 e2 s2.mok
      by_cases hlt : i < xs.length
      · refine .inr ⟨j1 hlt, fun H => ∃ (m : Mp) (S : Sto) (acc : List PyData) (us : List V), D ∈ m.av ∧ Ext m1 H1 m H ∧ RepS X.prog X.w X.K m H S ∧ H D = some (.lst us) ∧ Reps X.prog X.w X.K m H acc us ∧
          PostE (Gx.of X) W σ m1 H1 (loopC g T E (wipeE ρ vs) (xs.drop (i + 1)) acc S) Q, fun H' z => ⟨xs.length - (i + 1), by omega, rfl, hlt, z⟩, fun x H' hy => ?_⟩
        obtain ⟨k, it, ei, ri⟩ := j3 x H' hlt hy
        have ex3 : Ext m2 H2 m2 H' := Ext.same k
        have R3 : Rd0 (Gx.of X) m2 (wipeE ρ vs) S2 (wipe σ vs) H' := (R1.ext e2 s2).ext ex3 (s2.same k)
        have hd : xs.drop i = it :: xs.drop (i + 1) := by
          obtain ⟨_, hx⟩ := List.getElem?_eq_some_iff.mp ei
          rw [← hx]; exact List.drop_eq_getElem_cons hlt
        rw [hd] at h2
        unfold loopC at h2
        split at h2
        · exact h2.elim
        · rename_i ρ3 eg
          refine ⟨m2, _, S2, it, ρ3, R3, ri, eg, fun σ4 R4 hw => ⟨hw.trans (wipe_idem σ vs), m2, ρ3, S2, R4, ?_⟩⟩
          revert h2
          cases T ρ3 S2 with
          | err c f S5 => exact fun z => z.elim
          | bad => exact fun z => z.elim
          | ok bb S5 =>
            intro h2 m5 H5 e5 s5
            have R5 := R4.ext e5 s5
            have hav5 := e5.avs D hav
            have hl5 : H5 D = some (.lst us) := e5.keep D _ (k _ _ hl) (s2.av D hav).1 fun _ z => by cases z
            have ra5 : Reps X.prog X.w X.K m5 H5 acc us := Reps.go (Go.of (s2.same k).mok e5) _ _ (Reps.go (Go.of s2.mok ex3) _ _ ra)
            have e15 : Ext m1 H1 m5 H5 := (e2.trans ex3).trans e5
            cases bb with
            | false => exact ⟨m5, S5, acc, us, hav5, e15, s5, hl5, ra5, h2⟩
            | true =>
              simp only [ite_true]
              refine ⟨m5, ρ3, S5, R5, ?_⟩
              revert h2
              dsimp only
              cases E ρ3 S5 with
              | err c f S6 => exact fun z => z.elim
              | bad => exact fun z => z.elim
              | ok y S6 =>
                cases y with
                | pv p =>
                  intro h2 m6 H6 v e6 s6 r6
                  dsimp only at h2
                  split at h2
                  · rename_i hz
                    have hav6 := e6.avs D hav5
                    have hl6 : H6 D = some (.lst us) := e6.keep D _ hl5 (s5.av D hav5).1 fun _ z => by cases z
                    have ra6 : Reps X.prog X.w X.K m6 H6 acc us := Reps.go (Go.of s5.mok e6) _ _ ra5
                    have e16 := e15.trans e6
                    have gg : Go X.prog X.w X.K m6 H6 m6 (upd H6 D (.lst (us ++ [v]))) := Go.updAv hav6 hl6
                    refine ⟨us, hl6, by rw [← Reps.length ra6]; have := of_decide_eq_true hz; rw [sizeLine_eq]; omega, m6, S6, acc ++ [p], us ++ [v], hav6, ?_, s6.updAv hav6 hl6, upd_same, Reps.append (Reps.go gg _ _ ra6) ⟨v, [], rfl, Rep.go gg _ _ r6, rfl⟩, h2⟩
                    exact ⟨fun a o q n t => by rw [upd_ne (ne_of_none q hD)]; exact e16.keep a o q n t, e16.fresh, e16.frA, e16.avs, e16.tbs, e16.len, e16.pre⟩
                  · exact h2.elim
                | _ => exact fun z => z.elim
      · have e0 : i = xs.length := by omega
        refine .inl ⟨j2 (by omega), ?_⟩
        rw [e0, List.drop_length] at h2
        have nst := (s2.av D hav).1
        refine h2 (m2.drop D) H2 (.ref D) ⟨e2.keep, e2.fresh, fun a ha => e2.frA a ((List.mem_filter.mp ha).1), fun a ha => List.mem_filter.mpr ⟨e2.avs a ha, decide_eq_true fun z => ?_⟩, e2.tbs, e2.len, e2.pre⟩ (s2.less rfl rfl fun a ha => (List.mem_filter.mp ha).1) ⟨D, us, rfl, hl, Mp.drop_not nst, Reps.go (Go.less (m := m2) (m' := m2.drop D) fun a (z : some a ∈ m2.st ∨ a ∈ m2.av.filter _) => z.imp id fun z => (List.mem_filter.mp z).1) _ _ ra⟩
        obtain ⟨o, eo, _⟩ := (s1.av a ha).2
        rw [z, hD] at eo; cases eo
/-- THE RULE for a list comprehension of one clause -/
theorem r_lc (hc : X.calm = true) (hN : X.N.Nodup) (hi : PIv X W tg iter Is) (ok : BlkOk X.N X.env.scope scope own)
    (hg : ∀ (s : Shared) (H : Hp) (C : Addr) (cl : List (Str × Addr)) (fp : List Addr), PGv (X.blk s H scope (compEnvC scope cl C X.env) fp) (own.map (·.2)) tg g) (ht : ∀ (s : Shared) (H : Hp) (C : Addr) (cl : List (Str × Addr)) (fp : List Addr), PTsv (X.blk s H scope (compEnvC scope cl C X.env) fp) W0 ifs T)
    (he : ∀ (s : Shared) (H : Hp) (C : Addr) (cl : List (Str × Addr)) (fp : List Addr), PEv (X.blk s H scope (compEnvC scope cl C X.env) fp) W0 elt E) (hs : ∀ x, foldedSetIterable iter X.env x = pure x := by intro _; rfl) :
    PEv X W (.ListComp elt [⟨tg, iter, ifs, 0⟩] scope pos) (dLc Is (own.map (·.2)) g T E) := PE.imp (pe_lc hc hN hi ok hg ht he hs) fun σ H Q h => lc_read h
end
end Mi
set_option maxHeartbeats 4000000
namespace Mi
open PySem PySem.Spec PyProof.Rows L2
/-- a built-in's rule, by what it makes of values -/
def rB (X : Cx) (W : WX) (σ0 : L2.St) (bf : Fn) : List V → Hp → VK → Prop := fun us H Q => ∃ m S xs, RepS X.prog X.w X.K m H S ∧ RepVs X.prog X.w X.K m H X.mg xs us ∧ PostE (Gx.of X) W σ0 m H (bf xs S) Q
abbrev Bf (X : Cx) (f : Value) (bf : Fn) : Prop := ∀ (W : WX) (σ0 : L2.St), CallR X f (rB X W σ0 bf)
section
variable {X : Cx} {W : WX} {pos : Pos} {A B C E : DE} {a b c tg iter elt : Expr} {es rest ifs : List Expr} {As : DA} {bf : Fn}
theorem RepVs.one {P : Program} {w : World} {K : PySem.W.Frag} {m : Mp} {H : Hp} {mg : Str → Option Value} {x : Val} {us : List V} (h : RepVs P w K m H mg [x] us) : ∃ u, us = [u] ∧ RepV P w K m H mg x u := by
  obtain ⟨u, r, e, h1, h2⟩ := h
  cases h2
  exact ⟨u, e, h1⟩
theorem RepVs.two {P : Program} {w : World} {K : PySem.W.Frag} {m : Mp} {H : Hp} {mg : Str → Option Value} {x y : Val} {us : List V} (h : RepVs P w K m H mg [x, y] us) : ∃ u v, us = [u, v] ∧ RepV P w K m H mg x u ∧ RepV P w K m H mg y v := by
  obtain ⟨u, r, e, h1, h2⟩ := h
  obtain ⟨v, rfl, h3⟩ := RepVs.one h2
  exact ⟨u, v, e, h1, h3⟩
theorem r_bi {x : Str} {p : Pos} {id : String} (hc : Bf X (.builtin id) bf) (hm : X.mg x = none) (hv : bootBuiltins x = some (.builtin id)) (ha : PAv X W (a :: es) As) (hg : Gl X x := by rfl) (hn : x ≠ "__name__" := by decide) (hdb : (x == ("__debug__" : Str)) = false := by decide)
    (he : starEach (a :: es) X.env = (false, eval a X.env) :: starEach es X.env := by rfl) (hpl : (backTo pos (starEach es X.env)).any (·.1) = false := by rfl) : PEv X W (.Call (.Name x p) (a :: es) [] pos) (dCall bf As) :=
  ⟨fun pins s σ H Q I h => (pe_callB (hc W σ) hg hm hv ha hn hdb he hpl).run pins s σ H Q I (tevA_get (tevA_top h) fun us H1 ⟨m1, S1, xs, s1, r1, h1⟩ => ⟨m1, S1, xs, s1, r1, h1⟩)⟩
theorem r_ty {x : Str} {p : Pos} {id : String} (hc : Bf X (.type id) bf) (hm : X.mg x = none) (hv : bootBuiltins x = some (.type id)) (ha : PAv X W (a :: es) As) (hg : Gl X x := by rfl) (hn : x ≠ "__name__" := by decide) (hdb : (x == ("__debug__" : Str)) = false := by decide)
    (he : starEach (a :: es) X.env = (false, eval a X.env) :: starEach es X.env := by rfl) (hpl : (backTo pos (starEach es X.env)).any (·.1) = false := by rfl) : PEv X W (.Call (.Name x p) (a :: es) [] pos) (dCall bf As) :=
  ⟨fun pins s σ H Q I h => (pe_callTy (hc W σ) hg hm hv ha hn hdb he hpl).run pins s σ H Q I (tevA_get (tevA_top h) fun us H1 ⟨m1, S1, xs, s1, r1, h1⟩ => ⟨m1, S1, xs, s1, r1, h1⟩)⟩
def b1 (f : PyData → Option PyData) : Fn := fun xs S => match xs with
  | [x] => match x.getR S with
    | some p => match f p with
      | some z => .ok (.pv z) S
      | none => .bad
    | none => .bad
  | _ => .bad
def fLen : PyData → Option PyData
  | .list xs => some (.int xs.length)
  | .tuple xs => some (.int xs.length)
  | .str z => if szOk z.length then some (.int z.length) else none
  | .dict kvs => some (.int kvs.length)
  | _ => none
def fInt : PyData → Option PyData
  | .int i => some (.int i)
  | .bool b => some (.int (if b then 1 else 0))
  | .str z => if z.length ≤ 640 then (PySem.intText? z).map .int else none
  | _ => none
def fBool : PyData → Option PyData
  | .int i => some (.bool (i != 0))
  | .bool b => some (.bool b)
  | _ => none
def fStr : PyData → Option PyData
  | .int i => if i.natAbs.log2 < 1920 then some (.str (toString i)) else none
  | _ => none
def fAbs : PyData → Option PyData
  | .int i => some (.int (if i < 0 then -i else i))
  | _ => none
def fTuple : PyData → Option PyData
  | .list xs => some (.tuple xs)
  | .tuple xs => some (.tuple xs)
  | _ => none
def fList : PyData → Option PyData
  | .list xs => some (.list xs)
  | .tuple xs => some (.list xs)
  | _ => none
def intsOf : List PyData → Option (List Int)
  | [] => some []
  | .int i :: xs => (intsOf xs).map fun r => i :: r
  | _ :: _ => none
def fSum : PyData → Option PyData
  | .list xs => (intsOf xs).map fun r => .int r.sum
  | _ => none
/-- a value read now, the script too -/
theorem peekR {m : Mp} {H : Hp} {S : Sto} {x : Val} {v : V} {p : PyData} (h : RepV X.prog X.w X.K m H X.mg x v) (r : RepS X.prog X.w X.K m H S) (e : x.getR S = some p) : RepT X.prog X.w X.K m H p v ∨ ∃ ps a us, p = .list ps ∧ v = .ref a ∧ SqL X.K H a us ∧ Reps X.prog X.w X.K m H ps us := by
  cases x with
  | ro xs =>
    obtain ⟨a, us, ev, q, r⟩ := h
    simp only [Val.getR_ro, Option.some.injEq] at e
    subst e
    exact .inr ⟨xs, a, us, rfl, ev, by rcases q with ⟨q, _⟩ | q; exact .inl q; exact q H, r⟩
  | pv p' => exact .inl (peek h r e)
  | loc l => exact .inl (peek h r e)
  | fn f => exact .inl (peek h r e)
/-- .. a list, whichever -/
theorem listR {m : Mp} {H : Hp} {S : Sto} {x : Val} {v : V} {ps : List PyData} (h : RepV X.prog X.w X.K m H X.mg x v) (r : RepS X.prog X.w X.K m H S) (e : x.getR S = some (.list ps)) : ∃ a us, v = .ref a ∧ SqL X.K H a us ∧ Reps X.prog X.w X.K m H ps us := by
  rcases peekR h r e with ⟨a, us, ev, q, r⟩ | ⟨ps', a, us, ep, ev, q, r⟩
  · exact ⟨a, us, ev, SqL.of q, r⟩
  · cases ep; exact ⟨a, us, ev, q, r⟩
theorem notL {m : Mp} {H : Hp} {S : Sto} {x : Val} {v : V} {p : PyData} (h : RepV X.prog X.w X.K m H X.mg x v) (r : RepS X.prog X.w X.K m H S) (e : x.getR S = some p) (n : ∀ ps, p ≠ .list ps) : RepT X.prog X.w X.K m H p v := by
  rcases peekR h r e with q | ⟨ps', a, us, ep, _⟩
  · exact q
  · exact absurd ep (n ps')
/-- unfolds a call of one argument -/
theorem b1_top {f : PyData → Option PyData} {σ0 : L2.St} {us : List V} {H : Hp} {Q : VK} (h : rB X W σ0 (b1 f) us H Q) : ∃ m S x u p z, us = [u] ∧ RepS X.prog X.w X.K m H S ∧ RepV X.prog X.w X.K m H X.mg x u ∧ x.getR S = some p ∧ f p = some z ∧
    ∀ m' H' w, Ext m H m' H' → RepS X.prog X.w X.K m' H' S → Rep X.prog X.w X.K m' H' z w → Q w H' := by
  obtain ⟨m, S, xs, rs, rv, h⟩ := h
  unfold b1 at h
  split at h
  · obtain ⟨u, rfl, r⟩ := RepVs.one rv
    split at h
    · rename_i p hp
      split at h
      · rename_i z hz
        exact ⟨m, S, _, u, p, z, rfl, rs, r, hp, hz, fun m' H' w e s r => h m' H' w e s r⟩
      · exact h.elim
    · exact h.elim
  · exact h.elim
theorem B_len : Bf X (.builtin "len") (b1 fLen) := by
  intro W σ0 pins s σ H us vs Q I rv h
  obtain ⟨m, S, x, u, p, z, rfl, rs, rx, hp, hz, k⟩ := b1_top h
  unfold fLen at hz
  split at hz
  · cases hz
    obtain ⟨a, us, rfl, hl, hr⟩ := listR rx rs hp
    exact call_len_seq pins s σ H _ vs Q I rv ⟨a, us, rfl, .inl hl, by rw [← Reps.length hr]; exact k m H _ (Ext.refl _ _) rs rfl⟩
  · cases hz
    obtain ⟨a, us, rfl, hl, hr⟩ := notL rx rs hp (fun _ z => by cases z)
    exact call_len_seq pins s σ H _ vs Q I rv ⟨a, us, rfl, .inr hl, by rw [← Reps.length hr]; exact k m H _ (Ext.refl _ _) rs rfl⟩
  · split at hz
    · rename_i hz'
      cases hz
      cases notL rx rs hp (fun _ z => by cases z)
      exact call_len_str pins s σ H _ vs Q I rv ⟨_, rfl, sz_of hz', k m H _ (Ext.refl _ _) rs rfl⟩
    · cases hz
  · rename_i kvs
    cases hz
    obtain ⟨a, xs, rfl, hd, hy, hl, nd, rk⟩ := notL rx rs hp (fun _ z => by cases z)
    cases rv with
    | cons r1 r2 =>
      cases r2
      obtain rfl := (show _ = Value.ref a from r1)
      have hm : s.heap.DictKeyed (nestedKind X.prog X.w) a (pairsH xs.l) := ⟨xs.l, dict_of I hd nd rk, rfl⟩
      have hlen : (pairsH xs.l).length = kvs.length := by
        have : ∀ {kvs : List (PyData × PyData)} {xs : List (NestedKey × Addr × Value)}, RepK X.prog X.w X.K m H kvs xs → (pairsH xs).length = kvs.length := by
          intro kvs
          induction kvs with
          | nil => intro xs h; cases h; rfl
          | cons kv kvs ih => obtain ⟨k, v⟩ := kv; rintro xs ⟨nk, ka, u, uv, r, rfl, _, _, _, _, _, h⟩; simpa [pairsH] using ih h
        exact this rk
      have hsz : (pairsH xs.l).length ≤ 16777216 := by
        have h2 : (pairsH xs.l).length = xs.l.length := by simp [pairsH]
        rw [sizeLine_eq] at hl; omega
      refine PyProof.Rows.call_len_slot (n := (pairsH xs.l).length) hm.typeIs F.slot_dict_len (fun Q' hq => len_keyed hy hm hq) (by omega) (by omega) ?_
      rw [hlen]
      exact ⟨.int kvs.length, H, I.tok _, ⟨_, rfl⟩, k m H _ (Ext.refl _ _) rs rfl⟩
  · cases hz
theorem B_int : Bf X (.type "int") (b1 fInt) := by
  intro W σ0 pins s σ H us vs Q I rv h
  obtain ⟨m, S, x, u, p, z, rfl, rs, rx, hp, hz, k⟩ := b1_top h
  unfold fInt at hz
  split at hz
  · cases hz
    cases notL rx rs hp (fun _ z => by cases z)
    exact call_int1 pins s σ H _ vs Q I rv (.inl ⟨_, rfl, k m H _ (Ext.refl _ _) rs rfl⟩)
  · cases hz
    cases notL rx rs hp (fun _ z => by cases z)
    exact call_int1 pins s σ H _ vs Q I rv (.inr ⟨_, rfl, k m H _ (Ext.refl _ _) rs rfl⟩)
  · split at hz
    · rename_i hz'
      simp only [Option.map_eq_some_iff] at hz
      obtain ⟨n, e, rfl⟩ := hz
      cases notL rx rs hp (fun _ z => by cases z)
      exact call_int_str pins s σ H _ vs Q I rv ⟨_, n, rfl, e, hz', k m H _ (Ext.refl _ _) rs rfl⟩
    · cases hz
  · cases hz
theorem B_bool : Bf X (.type "bool") (b1 fBool) := by
  intro W σ0 pins s σ H us vs Q I rv h
  obtain ⟨m, S, x, u, p, z, rfl, rs, rx, hp, hz, k⟩ := b1_top h
  unfold fBool at hz
  split at hz
  · cases hz
    cases notL rx rs hp (fun _ z => by cases z)
    exact call_bool1 pins s σ H _ vs Q I rv (.inl ⟨_, rfl, k m H _ (Ext.refl _ _) rs rfl⟩)
  · cases hz
    cases notL rx rs hp (fun _ z => by cases z)
    exact call_bool1 pins s σ H _ vs Q I rv (.inr ⟨_, rfl, k m H _ (Ext.refl _ _) rs rfl⟩)
  · cases hz
theorem B_str : Bf X (.type "str") (b1 fStr) := by
  intro W σ0 pins s σ H us vs Q I rv h
  obtain ⟨m, S, x, u, p, z, rfl, rs, rx, hp, hz, k⟩ := b1_top h
  unfold fStr at hz
  split at hz
  · split at hz
    · rename_i hz'
      cases hz
      cases notL rx rs hp (fun _ z => by cases z)
      exact call_str_int pins s σ H _ vs Q I rv ⟨_, rfl, hz', k m H _ (Ext.refl _ _) rs rfl⟩
    · cases hz
  · cases hz
theorem B_abs : Bf X (.builtin "abs") (b1 fAbs) := by
  intro W σ0 pins s σ H us vs Q I rv h
  obtain ⟨m, S, x, u, p, z, rfl, rs, rx, hp, hz, k⟩ := b1_top h
  unfold fAbs at hz
  split at hz
  · cases hz
    cases notL rx rs hp (fun _ z => by cases z)
    exact call_abs pins s σ H _ vs Q I rv ⟨_, rfl, k m H _ (Ext.refl _ _) rs rfl⟩
  · cases hz
theorem B_tuple : Bf X (.type "tuple") (b1 fTuple) := by
  intro W σ0 pins s σ H us vs Q I rv h
  obtain ⟨m, S, x, u, p, z, rfl, rs, rx, hp, hz, k⟩ := b1_top h
  unfold fTuple at hz
  split at hz
  · cases hz
    obtain ⟨a, us, rfl, hl, hr⟩ := listR rx rs hp
    exact call_tuple_of pins s σ H _ vs Q I rv ⟨a, us, rfl, .inl ⟨hl, fun p np => k m _ _ (Ext.upd np) (rs.upd np) ⟨p, us, rfl, SqT.of upd_same, Reps.go (Go.of rs.mok (Ext.upd np)) _ _ hr⟩⟩⟩
  · cases hz
    obtain ⟨a, us, rfl, hl, hr⟩ := notL rx rs hp (fun _ z => by cases z)
    exact call_tuple_of pins s σ H _ vs Q I rv ⟨a, us, rfl, .inr ⟨hl, k m H _ (Ext.refl _ _) rs ⟨a, us, rfl, hl, hr⟩⟩⟩
  · cases hz
theorem B_list : Bf X (.type "list") (b1 fList) := by
  intro W σ0 pins s σ H us vs Q I rv h
  obtain ⟨m, S, x, u, p, z, rfl, rs, rx, hp, hz, k⟩ := b1_top h
  unfold fList at hz
  split at hz
  · cases hz
    obtain ⟨a, us, rfl, hl, hr⟩ := listR rx rs hp
    exact call_list_of pins s σ H _ vs Q I rv ⟨a, us, rfl, .inl hl, fun p np => k m _ _ (Ext.upd np) (rs.upd np) ⟨p, us, rfl, upd_same, rs.notin np, Reps.go (Go.of rs.mok (Ext.upd np)) _ _ hr⟩⟩
  · cases hz
    obtain ⟨a, us, rfl, hl, hr⟩ := notL rx rs hp (fun _ z => by cases z)
    exact call_list_of pins s σ H _ vs Q I rv ⟨a, us, rfl, .inr hl, fun p np => k m _ _ (Ext.upd np) (rs.upd np) ⟨p, us, rfl, upd_same, rs.notin np, Reps.go (Go.of rs.mok (Ext.upd np)) _ _ hr⟩⟩
  · cases hz
theorem ints_of {m : Mp} {H : Hp} : ∀ {ps : List PyData} {ns : List Int} {us : List V}, intsOf ps = some ns → Reps X.prog X.w X.K m H ps us → us = ns.map V.int
  | [], _, _, e, h => by cases e; cases h; rfl
  | .int i :: ps, _, _, e, ⟨u, r, eu, h1, h2⟩ => by
    simp only [intsOf, Option.map_eq_some_iff] at e
    obtain ⟨ns, e, rfl⟩ := e
    cases h1
    rw [eu, ints_of e h2]; rfl
  | .none :: _, _, _, e, _ => by cases e
  | .bool _ :: _, _, _, e, _ => by cases e
  | .str _ :: _, _, _, e, _ => by cases e
  | .list _ :: _, _, _, e, _ => by cases e
  | .tuple _ :: _, _, _, e, _ => by cases e
  | .dict _ :: _, _, _, e, _ => by cases e
theorem B_sum (hc : X.calm = true) : Bf X (.builtin "sum") (b1 fSum) := by
  intro W σ0 pins s σ H us vs Q I rv h
  obtain ⟨m, S, x, u, p, z, rfl, rs, rx, hp, hz, k⟩ := b1_top h
  unfold fSum at hz
  split at hz
  · simp only [Option.map_eq_some_iff] at hz
    obtain ⟨ns, e, rfl⟩ := hz
    obtain ⟨a, us, rfl, hl, hr⟩ := listR rx rs hp
    have eu := ints_of (X := X) e hr
    subst eu
    exact cr_sum hc pins s σ H _ vs Q I rv ⟨a, ns, rfl, hl, k m H _ (Ext.refl _ _) rs rfl⟩
  · cases hz
def b2 (f : Int → Int → Int) : Fn := fun xs S => match xs with
  | [.pv (.int i), .pv (.int j)] => .ok (.pv (.int (f i j))) S
  | _ => .bad
theorem B_max2 (hc : X.calm = true) : Bf X (.builtin "max") (b2 fun i j => if j > i then j else i) := by
  intro W σ0 pins s σ H us vs Q I rv ⟨m, S, xs, rs, rx, h⟩
  unfold b2 at h
  split at h
  · obtain ⟨u, v, rfl, r1, r2⟩ := RepVs.two rx
    cases r1; cases r2
    exact call_max2 hc pins s σ H _ vs Q I rv ⟨_, _, rfl, post_ok h rs rfl⟩
  · exact h.elim
theorem B_min2 (hc : X.calm = true) : Bf X (.builtin "min") (b2 fun i j => if j < i then j else i) := by
  intro W σ0 pins s σ H us vs Q I rv ⟨m, S, xs, rs, rx, h⟩
  unfold b2 at h
  split at h
  · obtain ⟨u, v, rfl, r1, r2⟩ := RepVs.two rx
    cases r1; cases r2
    exact call_min2 hc pins s σ H _ vs Q I rv ⟨_, _, rfl, post_ok h rs rfl⟩
  · exact h.elim
def tyName : PyData → Option String
  | .none => some "NoneType"
  | .bool _ => some "bool"
  | .int _ => some "int"
  | .str _ => some "str"
  | .list _ => some "list"
  | .tuple _ => some "tuple"
  | .dict _ => none
/-- is a value of the type n of the type T: the built-in types that are asked for -/
def isTy (n T : String) : Bool := decide (n = T) || (decide (n = "bool") && decide (T = "int"))
def dIsi (T : String) (A : DE) : DE := fun ρ S => (A ρ S).bind fun x S1 => match x with
  | .pv p => match tyName p with
    | some n => .ok (.pv (.bool (isTy n T))) S1
    | none => .bad
  | _ => .bad
theorem ty_of {m : Mp} {H : Hp} {p : PyData} {v : V} {n : String} (h : Rep X.prog X.w X.K m H p v) (e : tyName p = some n) : TyX X.K H v (.type n) := by
  cases p with
  | none => cases e; cases h; exact .base .non
  | bool b => cases e; cases h; exact .base (.bl b)
  | int b => cases e; cases h; exact .base (.int b)
  | str b => cases e; cases h; exact .base (.str b)
  | list b => cases e; obtain ⟨a, us, rfl, q, _⟩ := h; exact .base (.lst q)
  | tuple b =>
    cases e
    obtain ⟨a, us, rfl, q, _⟩ := h
    rcases q with (q | ⟨o, q⟩) | ⟨o, its, n, q, c, _⟩
    · exact .base (.tup q)
    · exact .fTuple q
    · exact .kTuple q c
  | dict b => cases e
theorem r_isi {T : String} {x : Str} {p q : Pos} (hT : ∀ n, n ∈ ["NoneType", "bool", "int", "str", "list", "tuple"] → kitB n T = some (isTy n T)) (hb : bootBuiltins x = some (.type T)) (hm : X.mg "isinstance" = none) (hm2 : X.mg x = none) (ha : PEv X W a A)
    (hg : Gl X "isinstance" := by rfl) (hg2 : Gl X x := by rfl) (hn : x ≠ "__name__" := by decide) (hd : (x == ("__debug__" : Str)) = false := by decide) (h1 : starEach [a, .Name x q] X.env = (false, eval a X.env) :: starEach [.Name x q] X.env := by rfl) (h2 : starEach [.Name x q] X.env = (false, eval (.Name x q) X.env) :: starEach [] X.env := by rfl)
    (hpl : (backTo pos (starEach [.Name x q] X.env)).any (·.1) = false := by rfl) : PEv X W (.Call (.Name "isinstance" p) [a, .Name x q] [] pos) (dIsi T A) :=
  PE.imp (pe_callB call_isi hg hm PyProof.Rows.boot_isinstance (pa_cons ha (pa_cons (pe_bltn (v := .ty T) hg2 hm2 hb rfl hn hd) pa_nil h2) h1) (by decide) (by decide) h1 hpl) fun σ H Q h => tev_get (tev_top h) fun u H1 ⟨m1, S1, y, s1, r1, h1⟩ => by
    split at h1
    · rename_i pd
      split at h1
      · rename_i n hn'
        refine ⟨u, .ty T, .type n, .type T, isTy n T, rfl, .ty T, ty_of r1 hn', kit_ty (hT n ?_), post_ok h1 s1 rfl⟩
        cases pd <;> simp only [tyName, Option.some.injEq, reduceCtorEq] at hn' <;> subst hn' <;> simp
      · exact h1.elim
    · exact h1.elim
theorem kit_int : ∀ n, n ∈ ["NoneType", "bool", "int", "str", "list", "tuple"] → kitB n "int" = some (isTy n "int") := by decide +kernel
theorem kit_bool : ∀ n, n ∈ ["NoneType", "bool", "int", "str", "list", "tuple"] → kitB n "bool" = some (isTy n "bool") := by decide +kernel
theorem kit_tuple : ∀ n, n ∈ ["NoneType", "bool", "int", "str", "list", "tuple"] → kitB n "tuple" = some (isTy n "tuple") := by decide +kernel
theorem kit_str : ∀ n, n ∈ ["NoneType", "bool", "int", "str", "list", "tuple"] → kitB n "str" = some (isTy n "str") := by decide +kernel
end
end Mi
set_option maxHeartbeats 4000000
namespace Mi
open PySem PySem.Spec PyProof.Rows L2
section
variable {P : Program} {w : World} {K : PySem.W.Frag} {m m' : Mp} {H H' : Hp} {mg : Str → Option Value}
/-- a shared object is changed: data stand -/
theorem Go.updSt {D : Addr} {o : HO} (hD : some D ∈ m.st) (mo : MOk m H) : Go P w K m H m (L2.upd H D o) where
  tup := fun a vs h => SqT.go h fun o' e' _ l x => by
    rw [upd_ne fun z => by
      rcases mo D hD with ⟨us, e⟩ | ⟨φ, e⟩ <;> rw [z, e] at e' <;> cases e'
      · exact l _ rfl
      · exact x _ rfl]; exact e'
  lst := fun a vs h n => ⟨by rw [upd_ne (fun z : a = D => n (.inl (by rw [z]; exact hD)))]; exact h, n⟩
  dct := fun a vs h n => ⟨by rw [upd_ne (fun z : a = D => n (.inl (by rw [z]; exact hD)))]; exact h, n⟩
theorem Ext.updSt {D : Addr} {o : HO} (hD : some D ∈ m.st) (mo : MOk m H) : Ext m H m (L2.upd H D o) :=
  ⟨fun a o' e n _ => by rw [upd_ne (fun z : a = D => n (by rw [z]; exact hD))]; exact e, fun _ h => .inl h, fun _ h => .inl (.inr h), fun _ h => h, rfl, Nat.le_refl _, fun _ _ _ h => h⟩
/-- no dict is a code object -/
theorem dictO_ne (P : Program) (w : World) (a : Addr) (xs : DX) (c : Addr) (q : Str) : DictO P w a xs ≠ LamX.CodeO c q := fun z => by
  unfold DictO LamX.CodeO at z
  have z := HO.ext.inj z
  let ob : Obj := { cls := .type "dict", data := .dict (xs.l.map (entryOfKey (nestedKind P w))).toArray xs.ep }
  let hh : Heap := { objs := (List.replicate (max a c + 1) ob).toArray }
  have g : ∀ b, b ≤ max a c → hh.get? b = some ob := fun b hb => by
    have e : hh.objs[b]? = some ob := by
      show ((List.replicate (max a c + 1) ob).toArray)[b]? = some ob
      rw [List.getElem?_toArray, List.getElem?_replicate, if_pos (Nat.lt_succ_of_le hb)]
    unfold Heap.get?
    rw [e]
  have h1 : (∃ o es, hh.get? a = some o ∧ o.ExactDict ∧ o.data = .dict es xs.ep ∧ es.toList = xs.l.map (entryOfKey (nestedKind P w))) :=
    ⟨ob, _, g a (Nat.le_max_left _ _), ⟨rfl, rfl, rfl⟩, rfl, by simp [ob]⟩
  have h2 := (congrFun z hh).mp h1
  obtain ⟨oc, vs, t, e1, e2, _⟩ := h2
  rw [g c (Nat.le_max_right _ _)] at e1
  cases e1
  cases e2
theorem RepS.put {S : Sto} {l : Nat} {D : Addr} {o : HO} {ob : Ob} (r : RepS P w K m H S) (hl : m.st[l]? = some (some D)) {ob0 : Ob} (h0 : S[l]? = some ob0) (q : RepO P w K m (L2.upd H D o) D ob) : RepS P w K m (L2.upd H D o) (S.set l ob) where
  len := by simp [r.len]
  av := fun a h => ⟨(r.av a h).1, by
    have na : a ≠ D := fun z => (r.av a h).1 (z ▸ List.mem_of_getElem? hl)
    rw [upd_ne na]; exact (r.av a h).2⟩
  tabs := by
    have q0 := r.at_ hl h0
    cases ob0 with
    | lst xs => obtain ⟨us, e, _⟩ := q0; exact tabs_upd r.tabs e (fun _ z => by cases z) (fun _ _ z => by unfold LamX.CodeO at z; cases z)
    | dct kvs => obtain ⟨xs, e, _⟩ := q0; exact tabs_upd r.tabs e (fun _ z => by unfold DictO at z; cases z) (fun c q => dictO_ne _ _ _ _ c q)
    | dead => exact q0.elim
    | tab _ _ => exact q0.elim
  nd := r.nd
  ob := fun j o' h2 => by
    have g : Go P w K m H m (L2.upd H D o) := Go.updSt (List.mem_of_getElem? hl) r.mok
    by_cases hj : l = j
    · subst hj
      rw [List.getElem?_set] at h2
      simp only [ite_true] at h2
      split at h2
      · cases h2; exact .inr ⟨D, hl, q⟩
      · cases h2
    · rw [List.getElem?_set_ne hj] at h2
      rcases r.ob j o' h2 with q | ⟨a, h1, q⟩
      · exact .inl q
      refine .inr ⟨a, h1, ?_⟩
      have na : a ≠ D := fun z => hj (r.nd l j D hl (z ▸ h1))
      cases o' with
      | lst xs => obtain ⟨us, e, q⟩ := q; exact ⟨us, by rw [upd_ne na]; exact e, Reps.go g xs us q⟩
      | dct kvs => obtain ⟨xs, e, y, z, d, q⟩ := q; exact ⟨xs, by rw [upd_ne na]; exact e, y, z, d, RepK.go g kvs xs.l q⟩
      | dead => exact q
      | tab _ _ => exact q
/-- the object that a slot's number names -/
theorem loc_at {S : Sto} {l : Nat} {v : V} {o : Ob} (r : RepS P w K m H S) (h : RepV P w K m H mg (.loc l) v) (e : S[l]? = some o) (n : ¬ Gst m o) : ∃ a, m.st[l]? = some (some a) ∧ v = .ref a ∧ RepO P w K m H a o := by
  rcases r.ob l o e with ⟨z, _⟩ | ⟨a, ea, q⟩
  · exact absurd z n
  · exact ⟨a, ea, h.2 a ea, q⟩
end
def fApp : Fn := fun xs S => match xs with
  | [.loc l, .pv p] => match S[l]? with
    | some (.lst ys) => if szOk (ys.length + 1) then .ok (.pv .none) (S.set l (.lst (ys ++ [p]))) else .bad
    | _ => .bad
  | _ => .bad
def fPop : Val → Sto → Res Val := fun x S => match x with
  | .loc l => match S[l]? with
    | some (.lst ys) => match ys[ys.length - 1]? with
      | some p => .ok (.pv p) (S.set l (.lst ys.dropLast))
      | none => .bad
    | _ => .bad
  | _ => .bad
def lstAt (x : Val) (S : Sto) : Bool := match x with
  | .loc l => match S[l]? with
    | some (.lst _) => true
    | _ => false
  | _ => false
def dApp (A B : DE) : DE := fun ρ S => (A ρ S).bind fun x S1 => if lstAt x S1 then (B ρ S1).bind fun y S2 => fApp [x, y] S2 else .bad
def dPop (A : DE) : DE := fun ρ S => (A ρ S).bind fPop
def dctPut (kvs : List (PyData × PyData)) (k : NestedKey) (kp v : PyData) : List (PyData × PyData) :=
  if kvs.any (fun kv => decide (keyOf kv.1 = some k)) then kvs.map fun kv => if keyOf kv.1 = some k then (kv.1, v) else kv else kvs ++ [(kp, v)]
/-- o[i] = v -/
def fSet (o i v : Val) (S : Sto) : Option Sto := match o, v with
  | .loc l, .pv p => match S[l]? with
    | some (.lst ys) => match i with
      | .pv (.int k) => match ixN ys.length k with
        | some j => some (S.set l (.lst (ys.set j p)))
        | none => none
      | _ => none
    | some (.dct kvs) => match i with
      | .pv kp => match dkey kp with
        | some k => if szOk (kvs.length + 1) then some (S.set l (.dct (dctPut kvs k kp p))) else none
        | none => none
      | _ => none
    | _ => none
  | _, _ => none
def dSub (O I A : DE) : DS := fun ρ S => (A ρ S).s ρ fun x S1 => (O ρ S1).s ρ fun o S2 => (I ρ S2).s ρ fun i S3 => match fSet o i x S3 with
  | some S4 => .next ρ S4
  | none => .bad
def dRaise (c : Str) : DS := fun ρ S => .err c none ρ S
section
variable {X : Cx} {W : WX} {pos : Pos} {A B C E : DE} {a b c tg iter elt : Expr} {es rest ifs : List Expr} {As : DA}
theorem reps_last {P : Program} {w : World} {K : PySem.W.Frag} {m : Mp} {H : Hp} {ps : List PyData} {us : List V} (h : Reps P w K m H ps us) : Reps P w K m H ps.dropLast us.dropLast := by
  rw [List.dropLast_eq_take, List.dropLast_eq_take, Reps.length h]
  exact Reps.take _ h
theorem reps_set {P : Program} {w : World} {K : PySem.W.Frag} {m : Mp} {H : Hp} : ∀ {ps : List PyData} {us : List V} (j : Nat) {p : PyData} {u : V}, Reps P w K m H ps us → Rep P w K m H p u → Reps P w K m H (ps.set j p) (us.set j u)
  | [], _, _, _, _, h, _ => by cases h; simp; rfl
  | q :: ps, _, 0, _, _, ⟨v, r, e, h1, h2⟩, hp => by subst e; exact ⟨_, _, rfl, hp, h2⟩
  | q :: ps, _, j + 1, _, _, ⟨v, r, e, h1, h2⟩, hp => by subst e; exact ⟨_, _, rfl, h1, reps_set j h2 hp⟩
/-- x.append(e) -/
theorem r_app {apos cpos : Pos} (ha : PEv X W a A) (hb : PEv X W b B) (hbase : attributeBase a "append" X.env (eval a X.env) = eval a X.env := by rfl)
    (hfew : ((backTo cpos (starEach [b] X.env)).all (fun x => !x.1) && (backToKw cpos (keywordEach [] X.env)).all (fun x => x.1.isSome) && decide (([b] : List Expr).length + ([] : List Keyword).length + (if ([] : List Keyword).isEmpty then 0 else 1) < 30)) = true := by rfl)
    (hline : (apos.endLine == cpos.line) = true := by rfl) (hs : starEach [b] X.env = (false, eval b X.env) :: starEach [] X.env := by rfl) (hplain : (backTo cpos (starEach [] X.env)).any (·.1) = false := by rfl) :
    PEv X W (.Call (.Attribute a "append" apos) [b] [] cpos) (dApp A B) :=
  PE.imp (pe_bm PySem.F.plainAttrs_list PySem.F.slot_list_append PySem.F.type_list_append mt_append ha (pa_cons hb pa_nil hs) hbase hfew hline hs hplain) fun σ H Q h => by
    obtain ⟨m, ρ, S, R, h⟩ := h
    have h1 := PostE.bind (G := Gx.of X) h
    refine ⟨m, ρ, S, R, ?_⟩
    revert h1
    cases A ρ S with
    | err c f S => exact fun z => z
    | bad => exact fun z => z
    | ok x S1 =>
      intro h1 m1 H1 u e s r
      obtain ⟨m1', S1', p, e', s', r', h2⟩ := h1 m1 H1 u e s r
      split at h2
      · rename_i hx
        have h2' := PostE.bind (G := Gx.of X) h2
        refine ⟨?_, m1', ρ, S1', R.ext e' s', ?_⟩
        · unfold lstAt at hx
          split at hx
          · split at hx
            · rename_i ys hy
              obtain ⟨a, ea, rfl, us, q, _⟩ := loc_at s' r' hy (fun z => by cases z)
              exact .inl ⟨rfl, us, SqL.of q⟩
            · cases hx
          · cases hx
        · revert h2'
          cases B ρ S1' with
          | err c f S2 => exact fun z => z
          | bad => exact fun z => z
          | ok y S2 =>
            intro h2' m2 H2 v e2 s2 r2
            obtain ⟨m3, S3, q, e3, s3, r3, h3⟩ := h2' m2 H2 v e2 s2 r2
            have rx := RepV.ext r' s'.mok e3
            unfold fApp at h3
            split at h3
            · rename_i l pd heq
              simp only [List.cons.injEq, and_true] at heq
              obtain ⟨rfl, rfl⟩ := heq
              split at h3
              · rename_i ys hy
                split at h3
                · rename_i hz
                  obtain ⟨a, ea, rfl, us, hl, hr⟩ := loc_at s3 rx hy (fun z => by cases z)
                  refine ⟨a, us, v, rfl, rfl, hl, by rw [← Reps.length hr]; have := of_decide_eq_true hz; rw [sizeLine_eq]; omega, ?_⟩
                  have hD := List.mem_of_getElem? ea
                  have g : Go X.prog X.w X.K m3 H2 m3 (upd H2 a (.lst (us ++ [v]))) := Go.updSt hD s3.mok
                  exact h3 m3 _ _ (Ext.updSt hD s3.mok) (s3.put ea hy ⟨_, upd_same, Reps.append (Reps.go g _ _ hr) ⟨v, [], rfl, Rep.go g _ _ r3, rfl⟩⟩) rfl
                · exact h3.elim
              · exact h3.elim
            · exact h3.elim
      · exact h2.elim
theorem dPop_rd {m : Mp} {H : Hp} {S : Sto} {x : Val} {u : V} {σ : L2.St} {Q : VK} (s : RepS X.prog X.w X.K m H S) (r : RepV X.prog X.w X.K m H X.mg x u) (h : PostE (Gx.of X) W σ m H (fPop x S) Q) : tyV X.K "list" u H ∧ rPop u [] H Q := by
  unfold fPop at h
  split at h
  · split at h
    · rename_i ys hy
      split at h
      · rename_i p hp
        obtain ⟨a, ea, rfl, us, hl, hr⟩ := loc_at s r hy (fun z => by cases z)
        obtain ⟨v, ev, rv⟩ := Reps.get _ hr hp
        have hD := List.mem_of_getElem? ea
        have g : Go X.prog X.w X.K m H m (upd H a (.lst us.dropLast)) := Go.updSt hD s.mok
        refine ⟨.inl ⟨rfl, us, SqL.of hl⟩, a, us, v, rfl, rfl, hl, by rw [← Reps.length hr]; exact ev, ?_⟩
        exact h m _ _ (Ext.updSt hD s.mok) (s.put ea hy ⟨_, upd_same, reps_last (Reps.go g _ _ hr)⟩) (Rep.go g _ _ rv)
      · exact h.elim
    · exact h.elim
  · exact h.elim
/-- x.pop() -/
theorem r_pop {apos cpos : Pos} (ha : PEv X W a A) (hbase : attributeBase a "pop" X.env (eval a X.env) = eval a X.env := by rfl) (hline : (apos.endLine == cpos.line) = true := by rfl) : PEv X W (.Call (.Attribute a "pop" apos) [] [] cpos) (dPop A) :=
  PE.imp (pe_bm0 PySem.F.plainAttrs_list PySem.F.slot_list_pop PySem.F.type_list_pop mt_pop ha hbase hline) fun σ H Q h => tev_get (tev_top h) fun v H' ⟨m1, S1, x, s1, r1, h1⟩ => dPop_rd s1 r1 h1
/-- stores at a place, lists and dicts -/
def rSetM (X : Cx) : TSet := fun o i v H Q => ∃ m S ov iv vv S', RepS X.prog X.w X.K m H S ∧ RepV X.prog X.w X.K m H X.mg ov o ∧ RepV X.prog X.w X.K m H X.mg iv i ∧ RepV X.prog X.w X.K m H X.mg vv v ∧ fSet ov iv vv S = some S' ∧
  ∀ H', Ext m H m H' → RepS X.prog X.w X.K m H' S' → Q H'
theorem dict_put {P : Program} {w : World} {K : PySem.W.Frag} {m : Mp} {H : Hp} {k : NestedKey} {kp v : PyData} {ka : Addr} {u : Value} {uv : V} (h1 : keyOf kp = some k) (h2 : k.depth ≤ 8) (hk : Rep P w K m H kp (.ref ka)) (hu : RelV uv u) (hv : Rep P w K m H v uv) :
    ∀ {kvs : List (PyData × PyData)} {xs : List (NestedKey × Addr × Value)}, RepK P w K m H kvs xs → RepK P w K m H (dctPut kvs k kp v) (storedH xs k ka u) := by
  have any_ : ∀ {kvs : List (PyData × PyData)} {xs : List (NestedKey × Addr × Value)}, RepK P w K m H kvs xs → (kvs.any fun kv => decide (keyOf kv.1 = some k)) = (atKey xs k).isSome := by
    intro kvs
    induction kvs with
    | nil => intro xs h; cases h; rfl
    | cons kv kvs ih =>
      obtain ⟨kq, p⟩ := kv
      rintro xs ⟨nk, ka', u', uv', r, rfl, e1, e2, a1, a2, a3, a4⟩
      have := ih a4
      by_cases hn : nk = k
      · subst hn; simp [e1, atKey]
      · simp only [List.any_cons, e1, Option.some.injEq, hn, decide_false, Bool.false_or, this]
        simp [atKey, hn]
  have map_ : ∀ {kvs : List (PyData × PyData)} {xs : List (NestedKey × Addr × Value)}, RepK P w K m H kvs xs → RepK P w K m H (kvs.map fun kv => if keyOf kv.1 = some k then (kv.1, v) else kv) (xs.map (putAt k u)) := by
    intro kvs
    induction kvs with
    | nil => intro xs h; cases h; rfl
    | cons kv kvs ih =>
      obtain ⟨kq, p⟩ := kv
      rintro xs ⟨nk, ka', u', uv', r, rfl, e1, e2, a1, a2, a3, a4⟩
      by_cases hn : nk = k
      · subst hn
        simp only [List.map_cons, e1, ite_true]
        refine ⟨nk, ka', u, uv, _, ?_, e1, e2, a1, hu, hv, ih a4⟩
        simp [putAt]
      · simp only [List.map_cons, e1, Option.some.injEq, hn, ite_false]
        refine ⟨nk, ka', u', uv', _, ?_, e1, e2, a1, a2, a3, ih a4⟩
        simp [putAt, hn]
  intro kvs xs h
  unfold dctPut storedH
  rw [any_ h]
  split
  · exact map_ h
  · have app : ∀ {kvs : List (PyData × PyData)} {xs : List (NestedKey × Addr × Value)}, RepK P w K m H kvs xs → RepK P w K m H (kvs ++ [(kp, v)]) (xs ++ [(k, ka, u)]) := by
      intro kvs
      induction kvs with
      | nil => intro xs h; cases h; exact ⟨k, ka, u, uv, [], rfl, h1, h2, hk, hu, hv, rfl⟩
      | cons kv kvs ih =>
        obtain ⟨kq, p⟩ := kv
        rintro xs ⟨nk, ka', u', uv', r, rfl, e1, e2, a1, a2, a3, a4⟩
        exact ⟨nk, ka', u', uv', _, rfl, e1, e2, a1, a2, a3, ih a4⟩
    exact app h
theorem set_all (hu : X.A.units + 65 < cLine) : PSet X (rSetM X) := by
  intro pins s σ H o i v ov iv vv Q I ro ri rv ⟨m, S, xo, xi, xv, S', rs, r1, r2, r3, e, k⟩
  unfold fSet at e
  split at e
  · rename_i l p
    split at e
    · rename_i ys hy
      split at e
      · rename_i n
        split at e
        · rename_i j hj
          cases e
          obtain ⟨a, ea, rfl, us, hl, hr⟩ := loc_at rs r1 hy (fun z => by cases z)
          cases r2
          have hD := List.mem_of_getElem? ea
          have g : Go X.prog X.w X.K m H m (upd H a (.lst (us.set j v))) := Go.updSt hD rs.mok
          exact set_list pins s σ H _ _ v ov iv vv Q I ro ri rv ⟨a, us, n, j, rfl, rfl, hl, by rw [← Reps.length hr]; exact hj, k _ (Ext.updSt hD rs.mok) (rs.put ea hy ⟨_, upd_same, reps_set j (Reps.go g _ _ hr) (Rep.go g _ _ r3)⟩)⟩
        · cases e
      · cases e
    · rename_i kvs hy
      split at e
      · rename_i kp
        split at e
        · rename_i nk hk
          split at e
          · rename_i hz
            cases e
            obtain ⟨a, ea, rfl, xs, hd, hys, hsz, nd, rk⟩ := loc_at rs r1 hy (fun z => by cases z)
            obtain ⟨⟨ps, rfl⟩, e1, e2⟩ := dkey_of hk
            obtain ⟨ka, us, rfl, hT, hr⟩ := (show Rep X.prog X.w X.K m H (.tuple ps) i from r2)
            obtain rfl : iv = Value.ref ka := ri
            obtain rfl : ov = Value.ref a := ro
            have hm := dict_of I hd nd rk
            have hkey : (nestedKind X.prog X.w).is s.heap nk ka := ⟨nested_of I (.tuple ps) (.ref ka) _ nk e1 ⟨ka, us, rfl, hT, hr⟩ rfl, e2⟩
            have room : (nestedKind X.prog X.w).room X.A.in1 := by show X.A.units + 1 + 8 < cLine; omega
            have hlen : xs.l.length = kvs.length := by
              have : ∀ {kvs : List (PyData × PyData)} {xs : List (NestedKey × Addr × Value)}, RepK X.prog X.w X.K m H kvs xs → xs.length = kvs.length := by
                intro kvs
                induction kvs with
                | nil => intro xs h; cases h; rfl
                | cons kv kvs ih => obtain ⟨k, v⟩ := kv; rintro xs ⟨nk, ka, u, uv, r, rfl, _, _, _, _, _, h⟩; simpa using ih h
              exact this rk
            refine wpAny_setItem_heap (hsz := hsz) room hkey hm fun h' hm' hs => ?_
            obtain ⟨o', es, ep, g1, g2, g3, g4, g5, g6⟩ := hm'
            have hD := List.mem_of_getElem? ea
            have g : Go X.prog X.w X.K m H m (upd H a (DictO X.prog X.w a ⟨ep, storedH xs.l nk ka vv⟩)) := Go.updSt hD rs.mok
            have I' := I.write (x := a) (e := a) (o := DictO X.prog X.w a ⟨ep, storedH xs.l nk ka vv⟩) (t' := s.toks + (nestedKind X.prog X.w).draws nk) (h' := h') (by rw [hd]; exact True.intro) (.inl rfl) (fun b u hb q => (hs.2 b hb).trans q) ⟨_, g1⟩
              ⟨⟨o', es, g1, g2, g3, g4⟩, ⟨_, g1⟩, fun h1 h2 ⟨o', es, g1, g2, g3, g4⟩ st => ⟨o', es, st _ g1, g2, g3, g4⟩⟩
            refine ⟨_, I', k _ (Ext.updSt hD rs.mok) (rs.put ea hy ⟨_, upd_same, hys, ?_, g6, RepK.go g _ _ (dict_put e1 e2 ⟨ka, us, rfl, hT, hr⟩ rv r3 rk)⟩)⟩
            have hz := of_decide_eq_true hz
            rw [sizeLine_eq]
            unfold storedH
            split
            · rw [List.length_map]; omega
            · simp; omega
          · cases e
        · cases e
      · cases e
    · cases e
  · cases e
/-- o[i] = e -/
theorem s_sub {oe ie : Expr} {O Ix : DE} {p2 : Pos} (hu : X.A.units + 65 < cLine) (he : PEv X W a A) (ho : PEv X W oe O) (hi : PEv X W ie Ix) (hs : swapsWithSole [.Subscript oe ie p2] a pos.line X.env = pure false := by rfl) (hw : swappedStores [.Subscript oe ie p2] a X.env = pure none := by rfl)
    (h1 : (assignEach [.Subscript oe ie p2] X.env).map (·.2) = [assign (.Subscript oe ie p2) X.env] := by rfl)
    (hasg : ∀ v, assign (.Subscript oe ie p2) X.env v = (do
      let ov ← holding [v] (eval oe X.env)
      let iv ← holding [v, ov] (eval ie X.env)
      standAt p2
      holding [v, ov, iv] (setItem ov iv v)
      release [v, ov, iv] []) := by intro _; rfl) : PSv X W (.Assign [.Subscript oe ie p2] a pos) (dSub O Ix A) :=
  PS.imp (ps_asg he (pg_sub ho hi (set_all hu) hasg) hs hw h1) fun D σ H ⟨m, ρ, S, R, h⟩ => by
    have h1 := bindE_S (G := Gx.of X) R h
    refine ⟨m, ρ, S, R, ?_⟩
    revert h1
    cases A ρ S with
    | err c f S => exact fun z => z
    | bad => exact fun z => z
    | ok x S1 =>
      intro h1 m1 H1 u e s r
      obtain ⟨m2, S2, p, e2, s2, r2, h2⟩ := h1 m1 H1 u e s r
      have R2 := R.ext e2 s2
      have h3 := bindE_S (G := Gx.of X) R2 h2
      refine ⟨m2, ρ, S2, R2, ?_⟩
      revert h3
      cases O ρ S2 with
      | err c f S => exact fun z => z
      | bad => exact fun z => z
      | ok ov S3 =>
        intro h3 m3 H3 uo e3 s3 r3
        obtain ⟨m4, S4, po, e4, s4, r4, h4⟩ := h3 m3 H3 uo e3 s3 r3
        have R4 := R2.ext e4 s4
        have h5 := bindE_S (G := Gx.of X) R4 h4
        refine ⟨m4, ρ, S4, R4, ?_⟩
        revert h5
        cases Ix ρ S4 with
        | err c f S => exact fun z => z
        | bad => exact fun z => z
        | ok iv S5 =>
          intro h5 m5 H5 ui e5 s5 r5
          obtain ⟨m6, S6, pi, e6, s6, r6, h6⟩ := h5 m5 H5 ui e5 s5 r5
          have R6 := R4.ext e6 s6
          split at h6
          · rename_i S7 hf
            exact ⟨m6, S6, po, pi, p, S7, s6, RepV.ext r4 s4.mok e6, r6, RepV.ext (RepV.ext r2 s2.mok e4) s4.mok e6, hf, fun H' e7 s7 => h6 m6 H' σ e7 (R6.ext e7 s7)⟩
          · exact h6.elim
/-- raise X('..') -/
theorem s_raise {x mt : Str} {j : Nat} {p p2 p3 : Pos} {C : Addr} (hc : X.calm = true) (tk : L2N.Takes X W) (q : PySem.W.excIn X.K C [.type "ValueError", .type "Exception", .type "BaseException", .type "object"] "ValueError.__new__" = true) (gC : X.mg x = some (.ref C)) (kC : PySem.W.keepIn X.K (.ref C) = true)
    (r : Raises X (.ref C)) (hg : Gl X x := by rfl) (hdb : (x == ("__debug__" : Str)) = false := by decide) : PSv X W (.Raise (some (.Call (.Name x p) [.Constant (.str mt) j p2] [] p3)) none pos) (dRaise x) :=
  PS.imp (L2N.ps_raise hc tk (L2N.pmk_own PySem.F.excBase_ValueError q gC kC r hg hdb)) fun D σ H ⟨m, ρ, S, R, h⟩ => h m H σ _ _ (Ext.refl _ _) R ⟨C, gC, rfl, rfl⟩
end
end Mi
set_option maxHeartbeats 4000000
namespace Mi
open PySem PySem.Spec PyProof.Rows L2 HotX
section
variable {prog : Program} {w : World} {A : Around} {E : Value → Shared → Prop} {s : Shared}
/-- a list's iterator ends there -/
theorem list_endH {it l x1 : Addr} {i : Nat} {items : Array Value} {Q : Value → Shared → Prop} (hot : HotAt A x1 s.heap) (hi1 : it ≠ x1)
    (hit : s.heap.IsListIter it l i) (hl : s.heap.IsList l items) (hx : items[i]? = none)
    (hE : ∀ h' e, Heap.ExtBut it s.heap h' → (∃ o, h'.get? e = some o ∧ o.cls = .type "StopIteration") → E (.ref e) { s with heap := h' }) :
    wpAny (model prog w) A (Builtin.SmallTypes.nextOf (.ref it)) Q E s := by
  obtain ⟨o, ho, hc, hd⟩ := id hit
  obtain ⟨ol, hol, _, nl, hdl⟩ := hl
  obtain ⟨hh, o1, vs1, h1, d1, c1⟩ := hot
  unfold Builtin.SmallTypes.nextOf
  refine wpAny_bind (wpAny_callSpecial?_slot (name := Str.ofString "__next__") hit.typeIs slot_listiter_next
    (wpAny_call_entry slot_listiter_next hit.typeIs entry_listiter_next ?_ (args_listiter_next _)))
  show wpAny _ _ (field (.ref it) 0 >>= _) _ _ s
  refine wpAny_bind (wpAny_field ho hd (x := .ref l) rfl ?_)
  show wpAny _ _ (if (Value.ref l == Value.none) = true then _ else _) _ _ s
  rw [if_neg (show ¬ ((Value.ref l == Value.none) = true) from Bool.false_ne_true)]
  show wpAny _ _ (field (.ref it) 1 >>= _) _ _ s
  refine wpAny_bind (wpAny_field ho hd (x := .int i 0) rfl ?_)
  show wpAny _ _ (seqItems? (.ref l) >>= _) _ _ s
  refine wpAny_bind (wpAny_seqItems hol hdl ?_)
  simp only [Int.toNat_natCast, hx]
  refine wpAny_bind (wpAny_rule (wpAny_bind (wpAny_setField ho hd (by simp) ?_)))
  have h1' : (s.heap.update it (Obj.mapFields (·.setIfInBounds 0 Value.none))).get? x1 = some o1 := by rw [Heap.get?_update_other _ _ hi1]; exact h1
  show wpAny _ _ (newExc (.type "StopIteration") [] >>= _) _ _ _
  refine wpAny_bind ?_
  simp only [newExc, newTuple]
  refine wpAny_bind (wpAny_newObj_type ?_ (by size_fits))
  refine wpAny_bind (m := firstArgMember _ _) (wpAny_of_eq (a := Value.none) (by first | rfl | (simp only [firstArgMember]; rfl)) ?_)
  refine wpAny_newObj_type ?_ (by size_fits)
  refine raiseNew_hot ⟨hh, o1, vs1, Heap.get?_push_of_some _ (Heap.get?_push_of_some _ h1'), d1, c1⟩ (Nat.ne_of_lt (Heap.lt_size (Heap.get?_push_of_some _ h1'))) (Heap.get?_push_size _ rfl) rfl (by first | (simp; done) | (simp; omega) | (simp only [Array.size_append]; simp; omega)) ?_
  refine hE _ _ (fun b u nb e => ?_) ⟨_, Heap.get?_update_self _ (Heap.get?_push_size _ rfl) rfl, rfl⟩
  have e2 := Heap.get?_push_of_some { cls := .type "tuple", data := .seq #[] } (show (s.heap.update it (Obj.mapFields (·.setIfInBounds 0 Value.none))).get? b = some u by rw [Heap.get?_update_other _ _ (Ne.symm nb)]; exact e)
  rw [Heap.get?_update_other _ _ (Nat.ne_of_gt (Heap.lt_size e2))]
  exact Heap.get?_push_of_some _ e2
theorem zip_endH {x1 z TI TO i1 i2 l1 l2 : Addr} {k1 k2 : Nat} {xs ys : Array Value} {a b : Value} {Q : Fin → Shared → Prop} (hot : HotAt A x1 s.heap) (n1 : z ≠ x1) (n2 : i1 ≠ x1) (D : ZipApart z TI TO i1 i2 l1 l2)
    (hz : IsZip s.heap z TI TO .none) (hTI : IsPair s.heap TI (.ref i1) (.ref i2)) (h1 : s.heap.IsListIter i1 l1 k1) (hl1 : s.heap.IsList l1 xs) (hx : xs[k1]? = none)
    (hE : ∀ h' e, (∀ c o, c ≠ z → c ≠ TO → c ≠ i1 → c ≠ i2 → s.heap.get? c = some o → h'.get? c = some o) → (∃ o, h'.get? e = some o ∧ o.cls = .type "StopIteration") → E (.ref e) { s with heap := h' }) :
    wpAny (model prog w) A (Builtin.«zip.__next__» ⟨[.ref z], []⟩) Q E s := by
  obtain ⟨hh, o1, vs1, g1, d1, c1⟩ := hot
  show wpAny _ _ (field (.ref z) 2 >>= _) _ _ _
  refine wpAny_bind (wpAny_field hz rfl (x := .bool false) rfl ?_)
  show wpAny _ _ (field (.ref z) 3 >>= _) _ _ _
  refine wpAny_bind (wpAny_field hz rfl (x := .ref TI) rfl ?_)
  refine wpAny_bind (wpAny_seqItems hTI rfl ?_)
  show wpAny _ _ (Builtin.SmallTypes.ownedTupleIsFree (.ref z) >>= _) _ _ _
  refine wpAny_bind ?_
  unfold Builtin.SmallTypes.ownedTupleIsFree
  refine wpAny_bind (wpAny_field hz rfl (x := .none) rfl (wpAny_pure ?_))
  simp only [if_true]
  refine wpAny_bind (wpAny_rule ?_)
  refine wpAny_bind (wpAny_field hz rfl (x := .ref TO) rfl ?_)
  refine wpAny_bind (wpAny_setField_rec hz (by simp) fun h₁ hz₁ hs₁ => ?_)
  replace hz₁ : IsZip h₁ z TI TO .ellipsis := hz₁
  refine wpAny_bind ?_
  simp only [List.zipIdx_cons, List.zipIdx_nil, List.forIn_cons, List.forIn_nil]
  refine wpAny_bind (wpAny_bind (wpAny_onRaise ?_))
  show wpAny _ _ (Builtin.SmallTypes.nextOf (.ref i1) >>= _) _ _ _
  have g1' : h₁.get? x1 = some o1 := hs₁.extBut _ _ n1.symm g1
  refine wpAny_bind (list_endH (x1 := x1) ⟨hh, o1, vs1, g1', d1, c1⟩ n2 (h1.extBut hs₁.extBut D.i1z) (hl1.extBut hs₁.extBut D.l1z) hx fun h₂ e hs₂ he => ?_)
  obtain ⟨oe, hoe, hce⟩ := he
  have hz₂ : IsZip h₂ z TI TO .ellipsis := hs₂ _ _ D.i1z.symm hz₁
  have hez : e ≠ z := fun x => by subst x; rw [hz₂] at hoe; cases hoe; simp at hce
  exact wpAny_setField_rec hz₂ (by simp) fun h₃ _ hs₃ => hE h₃ e (fun c o c1 _ c3 _ x => hs₃.extBut _ _ c1 (hs₂ _ _ c3 (hs₁.extBut _ _ c1 x))) ⟨oe, hs₃.extBut _ _ hez hoe, hce⟩
theorem pyNext_zip_endH {x1 z TI TO i1 i2 l1 l2 : Addr} {k1 k2 : Nat} {xs ys : Array Value} {Q : Option Value → Shared → Prop} (hot : HotAt A x1 s.heap) (n1 : z ≠ x1) (n2 : i1 ≠ x1) (D : ZipApart z TI TO i1 i2 l1 l2)
    (hz : IsZip s.heap z TI TO .none) (hTI : IsPair s.heap TI (.ref i1) (.ref i2)) (h1 : s.heap.IsListIter i1 l1 k1) (hl1 : s.heap.IsList l1 xs) (hx : xs[k1]? = none)
    (hQ : ∀ h', (∀ c o, c ≠ z → c ≠ TO → c ≠ i1 → c ≠ i2 → s.heap.get? c = some o → h'.get? c = some o) → Q none { s with heap := h' }) : wpAny (model prog w) A (pyNext (.ref z)) Q E s := by
  have hT : s.TypeIs (.ref z) "zip" := ⟨_, hz, rfl⟩
  unfold pyNext
  refine wpAny_bind (wpAny_attempt (wpAny_callSpecial?_slot (name := Str.ofString "__next__") hT F.slot_zip_next
    (wpAny_call_entry F.slot_zip_next hT F.entry_zip_next (zip_endH (l2 := l2) (a := .none) (b := .none) (k2 := k2) (ys := ys) hot n1 n2 D hz hTI h1 hl1 hx fun h' e hk he => ?_) (F.args_zip_next_1 _))))
  obtain ⟨o, ho, hc⟩ := he
  refine wpAny_bind (wpAny_isInstance (T := "StopIteration") (b := true) ⟨o, ho, hc⟩ isSubtype_stop ?_)
  exact wpAny_pure (hQ _ hk)
end
end Mi
set_option maxHeartbeats 4000000
namespace Mi
open PySem PySem.Spec PyProof.Rows L2 HotX L2H
theorem turn_zipH {P : Program} {w : World} {K : PySem.W.Frag} {elts : List Expr} {kk : Nat} {tpos : Pos} {a b z TI TO i1 i2 : Addr} (D : ZipApart z TI TO i1 i2 a b) :
    TurnH P w K (.Tuple elts kk tpos) { go := (Itz K a b).go, yld := (Itz K a b).yld, stop := fun i H => ∃ xs, SqL K H a xs ∧ xs.length ≤ i } [z, TI, TO, i1, i2] z (fun i h => IsZip h z TI TO .none ∧ IsPair h TI (.ref i1) (.ref i2) ∧ (∃ x y, IsPair h TO x y) ∧ h.IsListIter i1 a i ∧ h.IsListIter i2 b i) where
  mem := by simp
  obj := (turn_zip (P := P) (w := w) (K := K) (elts := elts) (kk := kk) (tpos := tpos) D).obj
  keep := (turn_zip (P := P) (w := w) (K := K) (elts := elts) (kk := kk) (tpos := tpos) D).keep
  item := by
    intro X hP hw hK hc i pins s σ H E I hf st hg
    subst hP hw hK
    obtain ⟨hz, hTI, ⟨x0, y0, hTO⟩, h1, h2⟩ := st
    obtain ⟨xs, ys, x, y, hqx, hqy, hx, hy⟩ := hg
    obtain ⟨its, rv, p, _⟩ := I.list hqx
    obtain ⟨its2, rv2, p2, _⟩ := I.list hqy
    obtain ⟨u, hu, ru⟩ := rv.get hx
    obtain ⟨u2, hu2, ru2⟩ := rv2.get hy
    have hzl : z < s.heap.objs.size := Heap.lt_size hz
    have five : ∀ {φ : Addr → Prop}, φ z → φ TI → φ TO → φ i1 → φ i2 → ∀ c ∈ [z, TI, TO, i1, i2], φ c := fun a b c d e x hx => by
      simp only [List.mem_cons, List.not_mem_nil, or_false] at hx
      rcases hx with q | q | q | q | q <;> (rw [q]; assumption)
    refine wpAny_pyNext_zip_item D hz hTI hTO h1 h2 p.isList p2.isList (x := u) (y := u2) (by simpa using hu) (by simpa using hu2) fun h' z' TO' h1' h2' hT hsz hk => ?_
    refine ⟨_, rfl, wpAny_letOwnedTupleGo_zip (s := { s with heap := h' }) z' fun h'' z'' sb => ?_⟩
    have hT2 : h''.get? s.heap.objs.size = some { cls := .type "tuple", data := .seq #[u, u2] } := (sb.2 _ (Nat.ne_of_gt hzl)).trans hT
    have I1 : Inv X pins σ (upd H s.heap.objs.size (.tup [x, y])) { s with heap := h'' } :=
      I.turnedNew (t' := s.toks) (ch := [z, TI, TO, i1, i2]) (fun c o hb q => (sb.2 c (fun q' => hb (by simp [q']))).trans (hk c o (fun q' => hb (by simp [q'])) (fun q' => hb (by simp [q'])) (fun q' => hb (by simp [q'])) (fun q' => hb (by simp [q'])) q)) hf (Nat.le_refl _)
        ⟨by show 2 ≤ sizeLine; decide, [u, u2], .cons ru (.cons ru2 .nil), ⟨_, hT2, rfl, _, rfl⟩⟩
    refine ⟨.ref s.heap.objs.size, _, I1, rfl, ⟨_, x, y, rfl, I.hok.fresh (Nat.le_refl _), rfl, fun l hl => by rw [I.list_inj hl hqx]; exact hx, fun l hl => by rw [I.list_inj hl hqy]; exact hy⟩,
      ⟨z'', (sb.2 _ D.TIz).trans (hk _ _ D.TIz D.TITO D.TIi1 D.TIi2 hTI), ⟨u, u2, (sb.2 _ D.TOz).trans TO'⟩, h1'.at fun o q => (sb.2 _ D.i1z).trans q, h2'.at fun o q => (sb.2 _ D.i2z).trans q⟩, fun c hcm => ?_⟩
    have hlt : c < s.heap.objs.size := five (φ := fun c => c < s.heap.objs.size) hzl (Heap.lt_size hTI) (Heap.lt_size hTO) (let ⟨_, e1, _⟩ := h1; Heap.lt_size e1) (let ⟨_, e2, _⟩ := h2; Heap.lt_size e2) c hcm
    rw [upd_ne (Nat.ne_of_lt hlt)]
    exact (hf c hcm).1
  done := by
    intro X hP hw hK hc i pins s σ H E I hf st hg
    subst hP hw hK
    obtain ⟨hz, hTI, ⟨x0, y0, hTO⟩, h1, h2⟩ := st
    obtain ⟨xs, hqx, hend⟩ := hg
    obtain ⟨its, rv, p, _⟩ := I.list hqx
    have l1 := rv.length
    obtain ⟨p1, hot1, hp1⟩ := hc
    have hot : HotAt X.A p1.1 s.heap := by
      obtain ⟨hh, v1, e1, c1⟩ := hot1
      exact ⟨hh, p1.2, v1, (I.pin p1 (List.mem_append_left _ hp1)).1, e1, c1⟩
    have ne : ∀ c ∈ [z, TI, TO, i1, i2], c ≠ p1.1 := fun c hc q => (hf c hc).2.2.2.2.2 p1 (List.mem_append_left _ hp1) q.symm
    exact pyNext_zip_endH (k2 := i) (ys := #[]) hot (ne z (by simp)) (ne i1 (by simp)) D hz hTI h1 p.isList (by simp; omega) fun h' hk => ⟨rfl, I.turnedL (t' := s.toks) (ch := [z, TI, TO, i1, i2]) (fun c o hb q =>
      hk c o (fun q' => hb (by simp [q'])) (fun q' => hb (by simp [q'])) (fun q' => hb (by simp [q'])) (fun q' => hb (by simp [q'])) q) hf⟩
  self := fun A i s Q E st h => wpAny_pyIter_zip st.1 h
def ItzH (K : PySem.W.Frag) (a b : Addr) : It := { go := (Itz K a b).go, yld := (Itz K a b).yld, stop := fun i H => ∃ xs, SqL K H a xs ∧ xs.length ≤ i }
def iZipH (K : PySem.W.Frag) (ta : TA) : TI := fun σ H R => ta σ H fun vs H1 => ∃ a b xs ys, vs = [.ref a, .ref b] ∧ SqL K H1 a xs ∧ SqL K H1 b ys ∧ R (ItzH K a b) H1
theorem pi_zipH {X : Cx} {e e2 : Expr} {ta : TA} {p pos tpos : Pos} {elts : List Expr} {kk : Nat} (hg : Gl X "zip") (hm : X.mg "zip" = none) (ha : PA X [e, e2] ta)
    (hs : starEach [e, e2] X.env = (false, eval e X.env) :: starEach [e2] X.env := by rfl) (hpl : (backTo pos (starEach [e2] X.env)).any (·.1) = false := by rfl) :
    PIH X (.Tuple elts kk tpos) (.Call (.Name "zip" p) [e, e2] [] pos) (iZipH X.K ta) := by
  refine ⟨fun pins s σ H R I h => ?_⟩
  refine Call_ (ld_blt I hg hm PyProof.Rows.boot_zip (PyProof.Rows.callWith_type1 (thn (ha.run pos pins s σ H _ I h) fun us s1 ⟨vs, H1, I1, r1, q1⟩ => ?_) hs hpl))
  obtain ⟨a, b, xs, ys, ex, hqx, hqy, q⟩ := q1
  subst ex
  obtain ⟨its, rv, p1, _⟩ := I1.list hqx
  obtain ⟨its2, rv2, p2, _⟩ := I1.list hqy
  cases r1 with
  | cons r rr =>
    cases rr with
    | cons r' rr =>
      cases rr
      cases r
      cases r'
      refine call_zip_2 p1.isList p2.isList fun h' hz hTI hTO h1 h2 hsz hk => wpAny_pyIter_zip hz ?_
      refine ⟨s1.heap.objs.size + 4, [s1.heap.objs.size + 4, s1.heap.objs.size + 2, s1.heap.objs.size + 3, s1.heap.objs.size, s1.heap.objs.size + 1], _, _, H1, rfl, I1.kept (t' := s1.toks) hk, turn_zipH (PySem.W.ktu_apart s1.heap.objs.size a b p1.lt p2.lt), ⟨hz, hTI, ⟨_, _, hTO⟩, h1, h2⟩, fun c hcm => ?_, q⟩
      have hle : s1.heap.objs.size ≤ c := by
        have e' : c = s1.heap.objs.size + 4 ∨ c = s1.heap.objs.size + 2 ∨ c = s1.heap.objs.size + 3 ∨ c = s1.heap.objs.size ∨ c = s1.heap.objs.size + 1 := by simpa using hcm
        rcases e' with z | z | z | z | z
        · rw [z]; exact Nat.le_add_right _ _
        · rw [z]; exact Nat.le_add_right _ _
        · rw [z]; exact Nat.le_add_right _ _
        · rw [z]; exact Nat.le_refl _
        · rw [z]; exact Nat.le_add_right _ _
      exact I1.fpOk hle (I1.hok.fresh hle)
section
variable {X : Cx} {pins : List (Addr × Obj)} {σ : L2.St} {H : Hp} {s : Shared}
/-- the block's context, what is pinned kept -/
abbrev blkH (X : Cx) (s : Shared) (H : Hp) (scope : Scope) (cenv : Env) (fp : List Addr) : Cx := { X.blk s H scope cenv fp with pn := X.pn }
theorem inv_blkH {scope : Scope} {cenv : Env} {fp : List Addr} {s' : Shared} {σ' : L2.St} (I0 : Inv X pins σ H s) (I : Inv (X.blk s H scope cenv fp) [] σ' H s') (k : ∀ b o, s.heap.get? b = some o → s'.heap.get? b = some o) (hl : cenv.locals = s.heap.objs.size) : Inv (blkH X s H scope cenv fp) [] σ' H s' := by
  have ok := I.ok
  refine ⟨⟨ok.mod, ok.kind, ok.glob, ok.blt, ok.above, ok.inj, ok.has, ok.cab, ok.hd, ok.frames, ok.stk, ok.exf, ok.bs, ok.bsz, ok.noex, ok.exfs, ok.funs, ok.frf⟩, I.os, I.bare, I.base, I.loc, I.cell, I.free, I.freeC, fun p hp => ?_, I.hok, I.len⟩
  have hp : p ∈ X.pn := by rw [List.append_nil] at hp; exact hp
  obtain ⟨p1, p2, p3, p4, p5⟩ := I0.pin p (List.mem_append_left _ hp)
  exact ⟨k _ _ p1, p2, fun z => by have z' : p.1 = cenv.locals := z; rw [hl] at z'; exact absurd (Heap.lt_size p1) (by rw [z']; exact Nat.lt_irrefl _), fun z => (List.mem_cons.mp (I0.stkSub p.1 z)).elim p3 p4, p5⟩
/-- a comprehension's block as pe_lc has it, the exception's object pinned -/
theorem pe_lcH {elt tg iter : Expr} {ifs : List Expr} {scope : Scope} {own : List (Str × Nat)} {pos : Pos} {wi : TI} {g : TG} {tt : TT} {te : TE} (hc : HotC X) (hN : X.N.Nodup) (hi : PIH X tg iter wi) (ok : BlkOk X.N X.env.scope scope own)
    (hg : ∀ (s : Shared) (H : Hp) (C : Addr) (cl : List (Str × Addr)) (fp : List Addr), PG (blkH X s H scope (compEnvC scope cl C X.env) fp) tg g) (ht : ∀ (s : Shared) (H : Hp) (C : Addr) (cl : List (Str × Addr)) (fp : List Addr), PTs (blkH X s H scope (compEnvC scope cl C X.env) fp) ifs tt)
    (he : ∀ (s : Shared) (H : Hp) (C : Addr) (cl : List (Str × Addr)) (fp : List Addr), PE (blkH X s H scope (compEnvC scope cl C X.env) fp) elt te) (hs : ∀ x, foldedSetIterable iter X.env x = pure x := by intro _; rfl) :
    PE X (.ListComp elt [⟨tg, iter, ifs, 0⟩] scope pos) (tLc wi g tt te (own.map (·.2))) := by
  refine ⟨fun pins s σ H Q I h => ?_⟩
  rw [eval_ListComp]
  have hfree : ∀ y ∈ scope.names, y.2 = .free → ∃ c, X.env.cells.lookup y.1 = some c := fun y hy e => (ok.free y hy e).elim (fun k => I.ok.has _ (.inl k)) fun k => I.ok.has _ (.inr k)
  refine wpAny_comprehension_free (use := none) rfl hs (closure_ok hfree) ok.kind (fun y hy e => by rw [ok.uniq y hy, e])
    (thn (hi.run pins s σ H _ I h) fun xv s1 hx => thn hx fun itv s2 h2 => ?_)
  obtain ⟨it, fp, tn, J, H2, rfl, I2, T, st2, f2, q⟩ := h2
  refine wpAny_newObj_type (newEnv_comp ?_) (by show 0 ≤ sizeLine; decide)
  generalize hD : s2.heap.objs.size = D
  have hDn : H2 D = none := I2.hok.fresh (Nat.le_of_eq hD)
  obtain ⟨W, ⟨m0, w0⟩, turn⟩ := q D hDn
  generalize hs3 : ({ s2 with heap := s2.heap.push { cls := .type "list", data := .seq ([] : List Value).toArray } } : Shared) = s3
  have h3 : s3.heap = s2.heap.push { cls := .type "list", data := .seq ([] : List Value).toArray } := by rw [← hs3]
  have I3 : Inv X pins σ (upd H2 D (.lst [])) s3 := by
    rw [← hs3]
    refine I2.laid (t' := s2.toks) (fun b o e => Heap.get?_push_of_some _ e) (Nat.le_of_eq hD) ⟨Nat.zero_le _, [], 0, .nil, ?_⟩
    rw [← hD]
    exact Heap.get?_push_size _ rfl
  have f3 : ∀ b ∈ fp, FpOk X pins (upd H2 D (.lst [])) b ∧ b < s3.heap.objs.size := fun b hb => by
    obtain ⟨o, e, _⟩ := T.obj _ _ st2 b hb
    have hlt := Heap.lt_size e
    refine ⟨⟨?_, (f2 b hb).2⟩, by rw [h3, Heap.size_push]; exact Nat.lt_succ_of_lt hlt⟩
    rw [upd_ne (by rw [← hD]; exact Nat.ne_of_lt hlt)]
    exact (f2 b hb).1
  have st3 : tn 0 s3.heap := T.keep _ _ _ st2 fun b _ o e => by rw [h3]; exact Heap.get?_push_of_some _ e
  have I4' := block_start I3 ok hN f3
  generalize hcl : cellsFrom (s3.heap.objs.size + 1) scope.names (cloFrom X.env.cells scope.names []) = cl at I4'
  have kp : ∀ b o, s3.heap.get? b = some o → (pushCells (s3.heap.push { cls := .type "dict", data := .dict #[] }) scope.names).get? b = some o := fun b o e => pushCells_keeps _ _ _ _ (Heap.get?_push_of_some _ e)
  have I4 := inv_blkH I3 I4' kp rfl
  have pg := hg s3 (upd H2 D (.lst [])) s3.heap.objs.size cl fp
  have pt := ht s3 (upd H2 D (.lst [])) s3.heap.objs.size cl fp
  have pe := he s3 (upd H2 D (.lst [])) s3.heap.objs.size cl fp
  have hcB : ∀ ce, HotC (blkH X s3 (upd H2 D (.lst [])) scope ce fp) := fun _ => hc
  have nfp : ∀ b ∈ fp, (upd H2 D (.lst [])) b = none := fun b hb => (f3 b hb).1.1
  show codeAny _ _ (.compStart (.ListComp elt [⟨tg, iter, ifs, 0⟩] scope pos) 0 (.ref it) (.ref D) (compEnvC scope cl s3.heap.objs.size X.env)) (compPost (model X.prog X.w) X.A X.xe none (EP X pins σ Q) (.ref D) s3.heap.objs.size) { s3 with heap := pushCells (s3.heap.push { cls := .type "dict", data := .dict #[] }) scope.names }
  generalize hce : compEnvC scope cl s3.heap.objs.size X.env = ce at I4 pg pt pe hcB ⊢
  have cL : ce.locals = s3.heap.objs.size := by subst hce; rfl
  generalize hH3 : upd H2 D (.lst []) = H3 at I3 I4 pg pt pe w0 nfp f3 hcB
  generalize hs4 : ({ s3 with heap := pushCells (s3.heap.push { cls := .type "dict", data := .dict #[] }) scope.names } : Shared) = s4 at I4 ⊢
  have st4 : tn 0 s4.heap := T.keep _ _ _ st3 fun b _ o e => by rw [← hs4]; exact kp b o e
  have stat : ∀ {σ' : L2.St} {H' : Hp} {s' : Shared}, Inv (blkH X s3 H3 scope ce fp) [] σ' H' s' → (∀ b ∈ fp, H' b = none) → ∀ b ∈ fp, FpOk (blkH X s3 H3 scope ce fp) [] H' b := fun {σ' H' s'} I' hn b hb =>
    ⟨hn b hb, (I'.ok.exf b hb).1, I'.ok.exfs b hb, .inl hb, fun x c e => (I'.ok.exf b hb).2 x c e, fun p hp => (f3 b hb).1.2.2.2.2.2 p (List.mem_append_left _ (by rw [List.append_nil] at hp; exact hp))⟩
  have loop : codeAny (model X.prog X.w) X.A (.compLoop (.ListComp elt [⟨tg, iter, ifs, 0⟩] scope pos) 0 (.ref it) (.ref D) ce) (compPost (model X.prog X.w) X.A X.xe none (EP X pins σ Q) (.ref D) s3.heap.objs.size) s4 := by
    refine compLoop_any (fun n s' => ∃ i H', Inv (blkH X s3 H3 scope ce fp) [] (wipe σ (own.map (·.2))) H' s' ∧ tn i s'.heap ∧ (∀ b ∈ fp, H' b = none) ∧ W i n H') ?_ m0 ⟨0, H3, I4, st4, nfp, w0⟩
    rintro n s5 ⟨i, H5, I5, st5, n5, w5⟩
    rcases turn i n H5 w5 with ⟨stop, qq⟩ | ⟨go, Nx, hNx, step⟩
    · have td := T.done (blkH X s3 H3 scope ce fp) rfl rfl rfl (hcB ce) i [] s5 _ H5 (fun _ _ => False) I5 (stat I5 n5) st5 stop
      refine thnF td fun r s6 ⟨hr, I6⟩ => ?_
      subst hr
      have I7 : Inv X pins σ H5 s6 := I3.call' (ch := fp) I6.os I6.base I6.hok I6.bare fun b hb => ⟨(f3 b hb).1.2.2.2.1, (f3 b hb).1.2.1, (f3 b hb).1.2.2.2.2.1, (f3 b hb).1.2.2.2.2.2⟩
      have nC : H5 s3.heap.objs.size = none := by
        have z : H5 ce.locals = none := I6.free
        rw [cL] at z
        exact z
      obtain ⟨m, hn, _⟩ := I6.loc
      have hn : s6.heap.Ns ce.locals m := hn
      rw [cL] at hn
      obtain ⟨f0, f1, f2, f3', f4, f5⟩ := I3.fpOk (Nat.le_refl _) nC
      exact ⟨m, hn, fun h'' sb => ⟨.ref D, H5, I7.turned (t' := s6.toks) (fun b o hb e => (sb.2 b hb).trans e) f0 f1 f3' f4 f5, rfl, qq⟩⟩
    · have ti := T.item (blkH X s3 H3 scope ce fp) rfl rfl rfl (hcB ce) i [] s5 _ H5 (fun _ _ => False) I5 (stat I5 n5) st5 go
      refine thnF ti fun r s6 ⟨u, hr, h6⟩ => ?_
      subst hr
      refine thnF h6 fun _ s7 ⟨x, H7, I7, r7, y7, st7, n7⟩ => ?_
      have I7' := I7.pinned (stat I7 n7) (T.obj _ _ st7)
      refine thnF (pg.run _ s7 _ H7 x u _ I7' r7 (step x H7 y7)) fun _ s8 ⟨σ8, H8, I8, hw8, q8⟩ => ?_
      refine thnF (pt.run _ s8 σ8 H8 _ I8 q8) fun b s9 ⟨H9, I9, q9⟩ => ?_
      have fin : ∀ {s' : Shared} {H' : Hp}, Inv (blkH X s3 H3 scope ce fp) ([] ++ pinsAt fp s7.heap) σ8 H' s' → Nx H' → ∃ m, m < n ∧ ∃ i H', Inv (blkH X s3 H3 scope ce fp) [] (wipe σ (own.map (·.2))) H' s' ∧ tn i s'.heap ∧ (∀ b ∈ fp, H' b = none) ∧ W i m H' := fun {s' H'} I' nx => by
        obtain ⟨m', hm, w'⟩ := hNx H' nx
        have pin' : ∀ b ∈ fp, ∀ o, s7.heap.get? b = some o → s'.heap.get? b = some o ∧ H' b = none := fun b hb o e =>
          let z := I'.pin (b, o) (List.mem_append_right _ (List.mem_append_right _ (mem_pinsAt hb e)))
          ⟨z.1, z.2.1⟩
        have hl : (wipe σ (own.map (·.2))).length = σ8.length := by rw [← hw8, wipe_length]
        refine ⟨m', hm, i + 1, H', (I'.unpinned (pins := [])).weak hl (fun j v e => ?_), T.keep _ _ _ st7 fun b hb o e => (pin' b hb o e).1, fun b hb => ?_, w'⟩
        · rw [← hw8] at e
          exact (wipe_some e).1
        · obtain ⟨o, e, _⟩ := T.obj _ _ st7 b hb
          exact (pin' b hb o e).2
      cases b with
      | false =>
        simp only [Bool.false_eq_true, if_false] at q9 ⊢
        exact fin I9 q9
      | true =>
        simp only [if_true] at q9 ⊢
        refine thnF (pe.run _ s9 σ8 H9 _ I9 q9) fun z s10 ⟨yv, H10, I10, r10, acc, hD10, hz10, nx⟩ => ?_
        exact app_ok (X := blkH X s3 H3 scope ce fp) I10 hD10 hz10 r10 fun s11 I11 => fin I11 nx
  exact codeAny_compStart_list loop (T.self X.A 0 _ _ _ st4 loop)
end
end Mi
set_option maxHeartbeats 4000000
namespace Mi
open PySem PySem.Spec PyProof.Rows L2 HotX L2H
section
variable {prog : Program} {w : World} {A : Around} {E : Value → Shared → Prop} {s : Shared}
theorem next_tuple_endH {it t x1 : Addr} {i : Nat} {items : Array Value} {Q : Option Value → Shared → Prop} (hot : HotAt A x1 s.heap) (hi1 : it ≠ x1)
    (hit : IsTupIter s.heap it t i) (ht : IsTup s.heap t items) (hx : items[i]? = none)
    (hQ : ∀ h', Heap.ExtBut it s.heap h' → Q none { s with heap := h' }) : wpAny (model prog w) A (pyNext (.ref it)) Q E s := by
  obtain ⟨o, ho, hc, hd⟩ := id hit
  obtain ⟨ol, hol, _, nl, hdl⟩ := ht
  obtain ⟨hh, o1, vs1, h1, d1, c1⟩ := hot
  unfold pyNext
  refine wpAny_bind (wpAny_attempt (wpAny_callSpecial?_slot (name := Str.ofString "__next__") hit.typeIs slot_tupleiter_next
    (wpAny_call_entry slot_tupleiter_next hit.typeIs entry_tupleiter_next ?_ (args_tupleiter_next _))))
  show wpAny _ _ (field (.ref it) 0 >>= _) _ _ s
  refine wpAny_bind (wpAny_field ho hd (x := .ref t) rfl ?_)
  show wpAny _ _ (if (Value.ref t == Value.none) = true then _ else _) _ _ s
  rw [if_neg (show ¬ ((Value.ref t == Value.none) = true) from Bool.false_ne_true)]
  show wpAny _ _ (field (.ref it) 1 >>= _) _ _ s
  refine wpAny_bind (wpAny_field ho hd (x := .int i 0) rfl ?_)
  show wpAny _ _ (seqItems? (.ref t) >>= _) _ _ s
  refine wpAny_bind (wpAny_seqItems hol hdl ?_)
  simp only [Int.toNat_natCast, hx]
  refine wpAny_bind (wpAny_rule (wpAny_bind (wpAny_setField ho hd (by simp) ?_)))
  have h1' : (s.heap.update it (Obj.mapFields (·.setIfInBounds 0 Value.none))).get? x1 = some o1 := by rw [Heap.get?_update_other _ _ hi1]; exact h1
  show wpAny _ _ (newExc (.type "StopIteration") [] >>= _) _ _ _
  refine wpAny_bind ?_
  simp only [newExc, newTuple]
  refine wpAny_bind (wpAny_newObj_type ?_ (by size_fits))
  refine wpAny_bind (m := firstArgMember _ _) (wpAny_of_eq (a := Value.none) (by first | rfl | (simp only [firstArgMember]; rfl)) ?_)
  refine wpAny_newObj_type ?_ (by size_fits)
  refine raiseNew_hot ⟨hh, o1, vs1, Heap.get?_push_of_some _ (Heap.get?_push_of_some _ h1'), d1, c1⟩ (Nat.ne_of_lt (Heap.lt_size (Heap.get?_push_of_some _ h1'))) (Heap.get?_push_size _ rfl) rfl (by first | (simp; done) | (simp; omega) | (simp only [Array.size_append]; simp; omega)) ?_
  refine wpAny_bind (wpAny_isInstance (T := "StopIteration") (b := true) ⟨_, Heap.get?_update_self _ (Heap.get?_push_size _ rfl) rfl, rfl⟩ isSubtype_stop ?_)
  refine wpAny_pure (hQ _ fun b u nb e => ?_)
  have e2 := Heap.get?_push_of_some { cls := .type "tuple", data := .seq #[] } (show (s.heap.update it (Obj.mapFields (·.setIfInBounds 0 Value.none))).get? b = some u by rw [Heap.get?_update_other _ _ (Ne.symm nb)]; exact e)
  rw [Heap.get?_update_other _ _ (Nat.ne_of_gt (Heap.lt_size e2))]
  exact Heap.get?_push_of_some _ e2
theorem assign_tupleH {env : Env} {elts : List Expr} {k : Nat} {pos : Pos} {t x1 : Addr} {items : Array Value} {Q : Unit → Shared → Prop} (hot : HotAt A x1 s.heap) (ht : IsTup s.heap t items)
    (hn : (assignEach elts env).length = items.size) (hstar : (assignEach elts env).findIdx? (·.1) = none)
    (h : ∀ h', Heap.ExtBut s.heap.objs.size s.heap h' → wpAny (model prog w) A (assignInOrder ((assignEach elts env).map (·.2)) items.toList) Q E { s with heap := h' }) :
    wpAny (model prog w) A (assign (.Tuple elts k pos) env (.ref t)) Q E s := by
  rw [assign_Tuple]
  refine wpAny_bind (wpAny_standAt ?_)
  have hlt : t ≠ s.heap.objs.size := by obtain ⟨o, ho, _⟩ := ht; exact Nat.ne_of_lt (Heap.lt_size ho)
  obtain ⟨hh, o1, vs1, h1, d1, c1⟩ := hot
  have hx1 : x1 ≠ s.heap.objs.size := Nat.ne_of_lt (Heap.lt_size h1)
  unfold unpack
  rw [hn, hstar]
  refine wpAny_bind (wpAny_holding ?_)
  unfold unpackItems
  refine wpAny_bind ?_
  unfold notIterableAtAll
  refine wpAny_bind (wpAny_specialOf ht.typeIs slot_tuple_iter.lookup ?_)
  refine wpAny_pure ?_
  simp only [Bool.false_eq_true, if_false]
  refine wpAny_bind (wpAny_holding (iter_tuple ht ?_))
  refine wpAny_bind (wpAny_holding (draw_tuple hlt items.size 0 _ _ ⟨_, Heap.get?_push_size _ rfl, rfl, rfl⟩ (ht.push _) (by omega) fun h₁ hit₁ hs₁ => ?_))
  have hall : List.take items.size (List.drop 0 items.toList) = items.toList := by
    rw [List.drop_zero]; exact List.take_of_length_le (by simp)
  rw [hall]
  rw [if_neg (by simp)]
  have ht₁ : IsTup h₁ t items := (ht.push _).extBut hs₁.extBut hlt
  refine wpAny_bind (wpAny_holding (next_tuple_endH (x1 := x1) ⟨hh, o1, vs1, hs₁.extBut _ _ hx1 (Heap.get?_push_of_some _ h1), d1, c1⟩ hx1.symm hit₁ ht₁ (by simp) fun h₂ he₂ => ?_))
  simp only [Option.isSome_none, Bool.false_eq_true, if_false]
  exact wpAny_pure (h h₂ fun b o hb e => he₂ b o hb (hs₁.extBut b o hb (Heap.get?_push_of_some _ e)))
end
theorem hot_at2 {X : Cx} {pins : List (Addr × Obj)} {σ : L2.St} {H : Hp} {s : Shared} (c : HotC X) (I : Inv X pins σ H s) : ∃ x1, HotAt X.A x1 s.heap := by
  obtain ⟨p, ⟨hh, v1, e1, c1⟩, hp⟩ := c
  exact ⟨p.1, hh, p.2, v1, (I.pin p (List.mem_append_left _ hp)).1, e1, c1⟩
theorem pg_tupH {X : Cx} {pos : Pos} {es : List Expr} {k : Nat} {t : TGs} {n : Nat} (hc : HotC X) (h : PGs X es t)
    (hn : (assignEach es X.env).length = n := by rfl) (hst : (assignEach es X.env).findIdx? (·.1) = none := by rfl) : PG X (.Tuple es k pos) (gTup X.K n t) := by
  refine ⟨fun pins s σ H v u Q I r hw => ?_⟩
  obtain ⟨a, xs, e1, hq, hl, hw⟩ := hw
  subst e1
  cases r
  obtain ⟨its, rv, ht, hz⟩ := I.tuple hq
  obtain ⟨x1, hot⟩ := hot_at2 hc I
  refine assign_tupleH hot ht (by simp [hn, ← hl, rv.length]) hst fun h' hx => ?_
  have I1 : Inv X pins σ H { s with heap := h' } := I.kept (t' := s.toks) fun b o e => hx b o (Nat.ne_of_lt (Heap.lt_size e)) e
  exact h.run pins _ σ H xs _ Q I1 (by simpa using rv) hw
/-- what an own exception class must say, so that isinstance asks its instances rightly -/
structure ExcD (K : PySem.W.Frag) (D : Addr) : Prop where
  hcl : (PySem.W.clsIn K D).isSome = true
  hg : PySem.W.findIn K (.ref D) "__getattribute__" = some (some (.builtin "BaseException.__getattribute__"))
  hk : PySem.W.findIn K (.ref D) "__getattr__" = some none
  hs : PySem.W.subIn K (.ref D) (.type "BaseException") = some true
  ha : PySem.W.findIn K (.ref D) "__class__" = some (some (.builtin "object.__class__"))
  hn : PySem.W.specialIn K (.builtin "object.__class__") "__get__" = some (some (.builtin "getset_descriptor.__get__"))
  ht : PySem.W.takesIn K (.builtin "object.__class__") = some true
  hm : PySem.W.mroIn K D (.type "object") = some true
/-- the exception's own dict, where it has one -/
def DOk (d : Option Addr) (H : Hp) : Prop := d = none ∨ ∃ dx fs, d = some dx ∧ H dx = some (.xd fs)
/-- the exception that is handled is pinned: of the class D -/
structure ExAt (X : Cx) (a D : Addr) (d : Option Addr) (oe : Obj) : Prop where
  pin : (a, oe) ∈ X.pn
  zn : L2N.Zn (.ref D) d oe
  fld : ∃ vs, oe.data = .fields vs
  hnd : X.A.handled = some (.ref a)
theorem ExAt.hot {X : Cx} {a D : Addr} {d : Option Addr} {oe : Obj} (x : ExAt X a D d oe) : HotC X := by
  obtain ⟨vs, e⟩ := x.fld
  exact ⟨(a, oe), ⟨x.hnd, vs, e, x.zn.2.2 vs e⟩, x.pin⟩
/-- isinstance(e, c), e the exception that is handled -/
def rIsX (K : PySem.W.Frag) (D a : Addr) (d : Option Addr) : List V → Hp → VK → Prop := fun xs H Q => ∃ (c : V) (cv : Value) (b : Bool), xs = [.ref a, c] ∧ DOk d H ∧ (∀ u, RelV c u → u = cv) ∧ PySem.W.kitOne K (.ref D) cv = some b ∧ Q (.bl b) H
theorem call_isX {X : Cx} {a D : Addr} {d : Option Addr} {oe : Obj} (C : ExcD X.K D) (x : ExAt X a D d oe) : CallR X (.builtin "isinstance") (rIsX X.K D a d) := by
  intro pins s σ H xs us Q I r h
  obtain ⟨c, cv, b, rfl, hd, hcv, e, q⟩ := h
  cases r with
  | cons rx rr =>
    cases rr with
    | cons rt rr =>
      cases rr
      cases rx
      have ec := hcv _ rt
      subst ec
      obtain ⟨hget, _⟩ := I.pin (a, oe) (List.mem_append.mpr (.inl x.pin))
      obtain ⟨vs, hv⟩ := x.fld
      obtain ⟨h1, h2, _⟩ := x.zn
      have J : ∃ od, PySem.W.InstAt s.heap a oe D od := by
        obtain ⟨oc, odi, oda, osl⟩ := oe
        dsimp only at h1 h2 hv
        subst h1 h2 hv
        rcases hd with rfl | ⟨dx, fs, rfl, hx⟩
        · exact ⟨none, hget, rfl, rfl, trivial⟩
        · obtain ⟨_, ⟨o, _, _, eo, _⟩, _⟩ := I.hok dx _ hx
          exact ⟨some o, hget, rfl, rfl, eo⟩
      obtain ⟨od, J⟩ := J
      exact PySem.W.kia_one (PySem.W.kitx_exc (od := od) C.hcl C.hg C.hk C.hs C.ha C.hn C.ht C.hm) I.kIn J e (fun z => nomatch z) fun tk => ⟨.bl b, H, I.kept (t' := tk) fun _ _ z => z, rfl, q⟩
end Mi
set_option maxHeartbeats 4000000
namespace Mi
open PySem PySem.Spec PyProof.Rows L2 HotX L2H
/-- all that stood stands -/
def Kp (H H' : Hp) : Prop := ∀ b o, H b = some o → H' b = some o
theorem Kp.refl (H : Hp) : Kp H H := fun _ _ h => h
theorem Kp.trans {H H1 H2 : Hp} (a : Kp H H1) (b : Kp H1 H2) : Kp H H2 := fun x o h => b x o (a x o h)
theorem Kp.upd {H : Hp} {p : Addr} {o : HO} (h : H p = none) : Kp H (L2.upd H p o) := fun a u e => by rw [upd_ne (ne_of_none e h)]; exact e
theorem Kp.updA {H H' : Hp} {p : Addr} {o : HO} (k : Kp H H') (h : H p = none) : Kp H (L2.upd H' p o) := fun a u e => by rw [upd_ne (ne_of_none e h)]; exact k a u e
def pick : List Str → List Bool → List Str
  | w :: ws, b :: bs => if b = true then w :: pick ws bs else pick ws bs
  | _, _ => []
theorem pick_take : ∀ (ws : List Str) (bs : List Bool) (i : Nat) (w : Str) (b : Bool), ws[i]? = some w → bs[i]? = some b → pick (ws.take (i + 1)) (bs.take (i + 1)) = pick (ws.take i) (bs.take i) ++ (if b = true then [w] else [])
  | [], _, _, _, _, h, _ => by simp at h
  | _ :: _, [], _, _, _, _, h => by simp at h
  | w0 :: ws, b0 :: bs, 0, w, b, h1, h2 => by
    simp at h1 h2; subst h1 h2
    cases b0 <;> simp [pick]
  | w0 :: ws, b0 :: bs, i + 1, w, b, h1, h2 => by
    simp only [List.getElem?_cons_succ] at h1 h2
    have ih := pick_take ws bs i w b h1 h2
    simp only [List.take_succ_cons, pick]
    cases b0 <;> simp [ih]
theorem pick_len : ∀ (ws : List Str) (bs : List Bool), (pick ws bs).length ≤ ws.length
  | [], _ => by simp [pick]
  | _ :: _, [] => by simp [pick]
  | w :: ws, b :: bs => by
    have ih := pick_len ws bs
    simp only [pick]
    split <;> simp <;> omega
/-- a list of answers of isinstance -/
def tBs (a : Addr) (d : Option Addr) (bs : List Bool) : TA := fun σ H Q => σ[0]? = some (some (V.ref a)) ∧ DOk d H ∧ Q (bs.map V.bl) H
section
variable {X : Cx} {a D : Addr} {d : Option Addr} {oe : Obj}
theorem hn_nil : PA X [] (tBs a d []) := ⟨fun pos pins s σ H Q I h => pa_nil.run pos pins s σ H Q I h.2.2⟩
theorem hn_cons {ex : Expr} {es : List Expr} {b : Bool} {bs : List Bool} (h1 : PE X ex (fun σ H Q => σ[0]? = some (some (V.ref a)) ∧ DOk d H ∧ Q (.bl b) H)) (h2 : PA X es (tBs a d bs)) (hs : starEach (ex :: es) X.env = (false, eval ex X.env) :: starEach es X.env := by rfl) : PA X (ex :: es) (tBs a d (b :: bs)) :=
  PA.imp (pa_cons h1 h2 hs) fun σ H Q ⟨h, hd, q⟩ => ⟨h, hd, h, hd, q⟩
/-- isinstance(e, C), C a class of the text -/
theorem hn_own {e x : Str} {p p1 p2 pos : Pos} {b : Bool} {C : Addr} (hC : ExcD X.K D) (xa : ExAt X a D d oe) (hi : X.mg "isinstance" = none) (hm : X.mg x = some (.ref C)) (hk : PySem.W.kitOne X.K (.ref D) (.ref C) = some b) (hN : X.N[0]? = some e := by rfl)
    (hv : Vis X.env.scope e := by first | exact Or.inl rfl | exact Or.inr (Or.inl rfl) | exact Or.inr (Or.inr rfl)) (hg : Gl X "isinstance" := by rfl) (hg2 : Gl X x := by rfl) (hd : (x == ("__debug__" : Str)) = false := by decide) (hd1 : (e == ("__debug__" : Str)) = false := by decide) (hcd : (e == ("__classdict__" : Str)) = false := by decide) :
    PE X (.Call (.Name "isinstance" p) [.Name e p1, .Name x p2] [] pos) (fun σ H Q => σ[0]? = some (some (V.ref a)) ∧ DOk d H ∧ Q (.bl b) H) :=
  PE.imp (pe_callB (call_isX hC xa) hg hi PyProof.Rows.boot_isinstance (pa_cons (pe_var (i := 0) hN hv hd1 hcd) (pa_cons (pe_glob (v := .ref C) hg2 hm rfl hd) pa_nil)) (by decide) (by decide)) fun σ H Q ⟨h, hd, q⟩ =>
    ⟨_, h, .ref C, .ref C, b, rfl, hd, fun u r => r, hk, q⟩
/-- .. a built-in class -/
theorem hn_bi {e x : Str} {T : String} {p p1 p2 pos : Pos} {b : Bool} (hC : ExcD X.K D) (xa : ExAt X a D d oe) (hi : X.mg "isinstance" = none) (hm : X.mg x = none) (hb : bootBuiltins x = some (.type T)) (hk : PySem.W.kitOne X.K (.ref D) (.type T) = some b) (hN : X.N[0]? = some e := by rfl)
    (hv : Vis X.env.scope e := by first | exact Or.inl rfl | exact Or.inr (Or.inl rfl) | exact Or.inr (Or.inr rfl)) (hg : Gl X "isinstance" := by rfl) (hg2 : Gl X x := by rfl) (hn : x ≠ "__name__" := by decide) (hd : (x == ("__debug__" : Str)) = false := by decide) (hd1 : (e == ("__debug__" : Str)) = false := by decide) (hcd : (e == ("__classdict__" : Str)) = false := by decide) :
    PE X (.Call (.Name "isinstance" p) [.Name e p1, .Name x p2] [] pos) (fun σ H Q => σ[0]? = some (some (V.ref a)) ∧ DOk d H ∧ Q (.bl b) H) :=
  PE.imp (pe_callB (call_isX hC xa) hg hi PyProof.Rows.boot_isinstance (pa_cons (pe_var (i := 0) hN hv hd1 hcd) (pa_cons (pe_bltn (v := .ty T) hg2 hm hb rfl hn hd) pa_nil)) (by decide) (by decide)) fun σ H Q ⟨h, hd, q⟩ =>
    ⟨_, h, .ty T, .type T, b, rfl, hd, fun u r => r, hk, q⟩
/-- [word for word, good in zip(labels.split(' '), some) if good] -/
theorem hn_lc {lab word good sm : Str} {sep : Str} {scope : Scope} {own : List (Str × Nat)} {j k : Nat} {q1 q2 q3 q4 q5 q6 q7 q8 q9 q10 q11 q12 pos : Pos} {bs : List Bool} {L : Str} (hot : HotC X) (hN : X.N.Nodup) (hz : X.mg "zip" = none)
    (hsep : (sep.length == 0) = false) (hL : L.length + 2 ≤ sizeLine) (hlen : (Txt.split L sep).length = bs.length) (hsz : bs.length ≤ sizeLine)
    (ok : BlkOk X.N X.env.scope scope own) (hown : own.map (·.2) = [3, 4]) (h1 : X.N[1]? = some sm := by rfl) (h2 : X.N[2]? = some lab := by rfl) (h3 : X.N[3]? = some word := by rfl) (h4 : X.N[4]? = some good := by rfl)
    (v1 : Vis X.env.scope sm := by exact Or.inl rfl) (v2 : Vis X.env.scope lab := by exact Or.inl rfl) (l3 : (relS scope X.env.scope).names.lookup word = some .local := by rfl) (l4 : (relS scope X.env.scope).names.lookup good = some .local := by rfl)
    (hg : Gl X "zip" := by rfl) (d1 : (sm == ("__debug__" : Str)) = false := by decide) (c1 : (sm == ("__classdict__" : Str)) = false := by decide) (d2 : (lab == ("__debug__" : Str)) = false := by decide) (c2 : (lab == ("__classdict__" : Str)) = false := by decide)
    (d3 : (word == ("__debug__" : Str)) = false := by decide) (c3 : (word == ("__classdict__" : Str)) = false := by decide) (d4 : (good == ("__debug__" : Str)) = false := by decide) (c4 : (good == ("__classdict__" : Str)) = false := by decide) (hline : (q4.endLine == q6.line) = true := by rfl) :
    PE X (.ListComp (.Name word q1) [⟨.Tuple [.Name word q2, .Name good q3] k q11, .Call (.Name "zip" q8) [.Call (.Attribute (.Name lab q5) "split" q4) [.Constant (.str sep) j q7] [] q6, .Name sm q9] [] q10, [.Name good q12], 0⟩] scope pos)
      (fun σ H Q => ∃ p, 4 < σ.length ∧ σ[2]? = some (some (V.str L)) ∧ σ[1]? = some (some (V.ref p)) ∧ H p = some (.lst (bs.map V.bl)) ∧ ∀ H' q, Kp H H' → H' q = some (.lst ((pick (Txt.split L sep) bs).map V.str)) → Q (.ref q) H') := by
  refine PE.imp (pe_lcH (g := gTup X.K 2 (gCons (gName 3) (gCons (gName 4) gNil))) hot hN (pi_zipH hg hz (pa_cons (pe_split (pe_var (i := 2) h2 v2 d2 c2) pe_str rfl rfl hline) (pa_cons (pe_var (i := 1) h1 v1 d1 c1) pa_nil))) ok
    (fun s H C cl fp => pg_tupH (X := blkH X s H scope (compEnvC scope cl C X.env) fp) (n := 2) (show HotC X from hot) (pgs_cons (pg_name (i := 3) hN h3 (.inl l3) (.inr l3)) (pgs_cons (pg_name (i := 4) hN h4 (.inl l4) (.inr l4)) pgs_nil)))
    (fun s H C cl fp => pts_one (pt_val (pe_var (X := blkH X s H scope (compEnvC scope cl C X.env) fp) (i := 4) h4 (.inl l4) d4 c4))) (fun s H C cl fp => pe_var (X := blkH X s H scope (compEnvC scope cl C X.env) fp) (i := 3) h3 (.inl l3) d3 c3)) fun σ H Q ⟨p, hl5, e2, e1, hp, hq⟩ => ?_
  rw [hown]
  refine ⟨.str L, e2, ⟨L, rfl⟩, L, sep, rfl, rfl, hsep, hL, fun q nq => ⟨.ref p, e1, q, p, (Txt.split L sep).map V.str, bs.map V.bl, rfl, .inl (.inl upd_same), .inl (.inl (Kp.upd nq p _ hp)), fun Da nD => ?_⟩⟩
  have hqD : q ≠ Da := fun z => by rw [← z, upd_same] at nD; cases nD
  have nDa : H Da = none := by
    rw [upd_ne (Ne.symm hqD)] at nD; exact nD
  have hpD : p ≠ Da := ne_of_none hp nDa
  refine ⟨fun i m H' => m = bs.length - i ∧ i ≤ bs.length ∧ Kp H H' ∧ H' q = some (.lst ((Txt.split L sep).map V.str)) ∧ H' p = some (.lst (bs.map V.bl)) ∧ H' Da = some (.lst ((pick ((Txt.split L sep).take i) (bs.take i)).map V.str)),
    ⟨bs.length, rfl, Nat.zero_le _, Kp.updA (Kp.upd nq) nDa, by rw [upd_ne hqD, upd_same], by rw [upd_ne hpD]; exact Kp.upd nq p _ hp, by rw [upd_same]; simp [pick]⟩, ?_⟩
  rintro i m H' ⟨rfl, hi, kp, w1, w2, w3⟩
  by_cases hlt : i < bs.length
  · refine .inr ⟨⟨_, _, _, _, .inl (.inl w1), .inl (.inl w2), by rw [List.getElem?_map, List.getElem?_eq_getElem (show i < (Txt.split L sep).length by omega)]; rfl, by rw [List.getElem?_map, List.getElem?_eq_getElem hlt]; rfl⟩,
      fun H2 => i + 1 ≤ bs.length ∧ Kp H H2 ∧ H2 q = some (.lst ((Txt.split L sep).map V.str)) ∧ H2 p = some (.lst (bs.map V.bl)) ∧ H2 Da = some (.lst ((pick ((Txt.split L sep).take (i + 1)) (bs.take (i + 1))).map V.str)),
      fun H2 ⟨a1, a2, a3, a4, a5⟩ => ⟨bs.length - (i + 1), by omega, rfl, a1, a2, a3, a4, a5⟩, fun v H2 y => ?_⟩
    obtain ⟨T, x, y, rfl, nT, rfl, f1, f2⟩ := y
    have ex := f1 _ (.inl (.inl w1))
    have ey := f2 _ (.inl (.inl w2))
    rw [List.getElem?_map, List.getElem?_eq_getElem (show i < (Txt.split L sep).length by omega)] at ex
    rw [List.getElem?_map, List.getElem?_eq_getElem hlt] at ey
    simp only [Option.map_some, Option.some.injEq] at ex ey
    subst ex ey
    have hTq : q ≠ T := ne_of_none w1 nT
    have hTp : p ≠ T := ne_of_none w2 nT
    have hTD : Da ≠ T := ne_of_none w3 nT
    have kT : Kp H (L2.upd H' T (.tup [.str (Txt.split L sep)[i], .bl bs[i]])) := kp.trans (Kp.upd nT)
    have pt := pick_take (Txt.split L sep) bs i _ _ (List.getElem?_eq_getElem (show i < (Txt.split L sep).length by omega)) (List.getElem?_eq_getElem hlt)
    refine ⟨T, _, rfl, .inl (.inl upd_same), rfl, _, _, rfl, _, _, rfl, rfl, ?_, _, ?_, bs[i], rfl, ?_⟩
    · simp [wipe, List.set_comm, List.set_set]
    · simp only [wipe]
      rw [List.getElem?_set_self (by simpa using hl5)]
    · cases hb : bs[i] with
      | false =>
        rw [if_neg Bool.false_ne_true]
        rw [hb] at pt kT
        refine ⟨hlt, kT, by rw [upd_ne hTq]; exact w1, by rw [upd_ne hTp]; exact w2, ?_⟩
        rw [upd_ne hTD, w3, pt]
        simp
      | true =>
        rw [if_pos rfl]
        rw [hb] at pt kT
        have z := pick_len ((Txt.split L sep).take i) (bs.take i)
        simp at z
        refine ⟨_, by simp only [wipe]; rw [List.getElem?_set_ne (by decide), List.getElem?_set_self (by simp; omega)], _, by rw [upd_ne hTD]; exact w3, by simp; omega, hlt, kT.updA nDa, by rw [upd_ne hqD, upd_ne hTq]; exact w1, by rw [upd_ne hpD, upd_ne hTp]; exact w2, ?_⟩
        rw [upd_same, pt]
        simp
  · have e : i = bs.length := by omega
    subst e
    refine .inl ⟨⟨_, .inl (.inl w1), by simp [hlen]⟩, hq H' Da kp ?_⟩
    rw [w3, List.take_length, ← hlen, List.take_length]
/-- the def's body: ∃ H', all that stood stands, and the words are returned -/
theorem names_pss {es : List Expr} {bs : List Bool} {lab sm : Str} {sep : Str} {lc : Expr} {j j2 : Nat} {q1 q2 q3 q4 q5 q6 q7 q8 q9 q10 : Pos} {L : Str} (hN : X.N.Nodup) (hes : PA X es (tBs a d bs)) (hsz : bs.length ≤ sizeLine)
    (hlc : PE X lc (fun σ H Q => ∃ p, 4 < σ.length ∧ σ[2]? = some (some (V.str L)) ∧ σ[1]? = some (some (V.ref p)) ∧ H p = some (.lst (bs.map V.bl)) ∧ ∀ H' q, Kp H H' → H' q = some (.lst ((pick (Txt.split L sep) bs).map V.str)) → Q (.ref q) H'))
    (hj : ((pick (Txt.split L sep) bs).map (·.length)).sum + (pick (Txt.split L sep) bs).length * sep.length ≤ 16777216)
    (h1 : X.N[1]? = some sm := by rfl) (h2 : X.N[2]? = some lab := by rfl) (l1 : X.env.scope.names.lookup sm = some .local := by rfl) (l2 : X.env.scope.names.lookup lab = some .local := by rfl)
    (hslc : starEach [lc] X.env = [(false, eval lc X.env)] := by rfl) (hline : (q6.endLine == q8.line) = true := by rfl) (hw1 : swapsWithSole [.Name sm q1] (.List es q2) q3.line X.env = pure false := by rfl) (hw2 : swapsWithSole [.Name lab q4] (.Constant (.str L) j q5) q9.line X.env = pure false := by rfl) :
    PSs X [.Assign [.Name sm q1] (.List es q2) q3, .Assign [.Name lab q4] (.Constant (.str L) j q5) q9, .Return (some (.Call (.Attribute (.Constant (.str sep) j2 q7) "join" q6) [lc] [] q8)) q10]
      (fun D σ H => σ[0]? = some (some (V.ref a)) ∧ 4 < σ.length ∧ DOk d H ∧ ∀ H', Kp H H' → D.rt (.str (Txt.join sep (pick (Txt.split L sep) bs))) H') := by
  refine PSs.imp (pss_cons (ps_asg (pe_lst hes) (pg_name (i := 1) hN h1 (.inl l1) (.inr l1)) hw1) (pss_cons (ps_asg pe_str (pg_name (i := 2) hN h2 (.inl l2) (.inr l2)) hw2) (pss_one (ps_ret (pe_join pe_str hlc hslc rfl hline))))) fun Dn σ H ⟨e0, hl, hd, q⟩ => ?_
  refine ⟨e0, hd, by simpa using hsz, fun p np => ?_⟩
  refine ⟨⟨sep, rfl⟩, p, by simpa using hl, ?_, ?_, upd_same, fun H' q' kp hq' => ⟨sep, q', _, rfl, rfl, .inl (.inl (.inl hq')), hj, q H' ((Kp.upd np).trans kp)⟩⟩
  · rw [List.getElem?_set_self (by simp; omega)]
  · rw [List.getElem?_set_ne (by decide), List.getElem?_set_self (by omega)]
end
section
variable {X : Cx} {a D : Addr} {d : Option Addr} {oe : Obj} {pins : List (Addr × Obj)} {σ : L2.St} {H : Hp} {s : Shared} {Q : VK}
/-- .. called where the exception is handled -/
theorem run_names {x qual : Str} {st : Stmt} {f : Addr} {fd : FuncData} {N : List Str} {e : Str} {z : Str} {k : Nat} (F : Fun X.K x qual st f fd) (S : FnScope N [e] (defScope st)) (hN5 : 4 < N.length) (hr : RoomH (k + 1) X.A) (xa : ExAt X a D d oe) (hb : Binds X.K fd [e] [])
    (hbody : ∀ (A : Around) (outer : List Env) (s : Shared) (H : Hp) (E : XK), A.handled = some (.ref a) → PSs (cxH C8.CX0 X.prog X.w X.K X.mg X.base N qual (defScope st) f fd.code A outer s H E (a, oe)) (defBody st)
      (fun D σ H => σ[0]? = some (some (V.ref a)) ∧ 4 < σ.length ∧ DOk d H ∧ ∀ H', Kp H H' → D.rt (.str z) H'))
    (I : Inv X pins σ H s) (hd : DOk d H) (hq : ∀ H', Kp H H' → Q (.str z) H') : wpAny (model X.prog X.w) X.A (call (.ref f) [.ref a]) (EP X pins σ Q) X.xe s := by
  obtain ⟨oc, od, kV, doc, pm, an, cdv, ct, osl, rfl, lk, hcd⟩ := F.ex
  have b := hb s [.ref a] I.kIn rfl
  rw [List.append_nil] at b
  have P1 := I.pin (a, oe) (List.mem_append_left _ xa.pin)
  have hpin : PinOk X.stack H s (a, oe) := ⟨P1.1, P1.2.1, fun hm => (List.mem_cons.mp (I.stkSub a hm)).elim P1.2.2.1 P1.2.2.2.1, P1.2.2.2.2⟩
  have e0 := I.env0
  have rc : codeAny (model X.prog X.w) X.A (.call (.ref f) ⟨[.ref a], []⟩) (CR C8.CX0 X.stack X.prog X.w H s Q C8.E0) s := by
    have KX : X.K.In s.heap := e0.mod.kin.keeps fun b o e => (e0.bs b o e).1
    have lim : s.heap.NoLimit := e0.mod.nolimit.keeps fun b o e => (e0.bs b o e).1
    have hkind : ∀ y ∈ [e].zip [Value.ref a], (defScope st).names.lookup y.1 = some .local ∨ ((defScope st).names.lookup y.1 = some .cell ∧ ((cellsFrom (s.heap.objs.size + 1) (defScope st).names []).lookup y.1).isSome = true) := fun ⟨n, v⟩ hy => by
      rcases S.par n (List.of_mem_zip hy).1 with q | q
      · exact .inl q
      · exact .inr ⟨q, PySem.W.cellsFrom_some _ _ _ (.inl q)⟩
    refine codeAny_call_function hr.depth (KX _ _ lk) rfl S.co S.gen rfl (PySem.W.codeRec_of KX hcd) (b _ _ _ _ ?_)
    refine wpAny_newFunctionEnv_cells S.kind hkind fun env he s1 x => ?_
    subst he
    refine ⟨lim.keeps x.toInCall.keep, codeAny_func ?_⟩
    have I1 := inv_startH (CX := C8.CX0) (E := C8.E0) S hpin e0 (vs := [V.ref a]) rfl (.cons rfl .nil) x
    refine wpAny_mono ((hbody X.A X.stack s H C8.E0 xa.hnd).run [] s1 (L2.start N [V.ref a]) H { nx := fun _ H' => Q .non H', rt := Q } I1 ⟨rfl, by unfold L2.start; simp; omega, hd, hq⟩) (fun fl s' hs => ?_) fun e s' hs => hs
    cases fl with
    | ret u =>
      obtain ⟨v, σ', H', J, rv, q⟩ := hs
      exact ⟨v, H', J.os, J.bare, J.base, J.hok, rv, q⟩
    | next =>
      obtain ⟨σ', H', J, q⟩ := hs
      exact ⟨.non, H', J.os, J.bare, J.base, J.hok, rfl, q⟩
    | brk =>
      obtain ⟨_, _, _, q⟩ := hs
      exact False.elim q
    | cont =>
      obtain ⟨_, _, _, q⟩ := hs
      exact False.elim q
  refine wpAny_call (codeAny_mono rc fun r s' hq => ?_)
  cases r with
  | error e => exact (show False from hq).elim
  | ok fl =>
    cases fl with
    | ret u => exact I.after hq
    | next => exact False.elim hq
    | brk => exact False.elim hq
    | cont => exact False.elim hq
end
end Mi
set_option maxHeartbeats 4000000
namespace Mi
open PySem PySem.Spec PyProof.Rows L2 HotX L2H LamX
/-- the lambda's body as lamCx has it, exceptions with a context of None -/
abbrev lamN (X : Cx) (A : Around) (outer : List Env) (s : Shared) (H : Hp) (E : XK) (scope : Scope) (f c' : Addr) : Cx :=
  { lamCx X A outer s H E scope f c' with xe := fun e s' => wpAny (model X.prog X.w) (A.deeper (lamEnv X scope s.heap.objs.size f c')) (leaving (lamEnv X scope s.heap.objs.size f c') e) (fun _ s'' => L2N.CX X.prog X.w outer H s E e s'') (fun e' s'' => L2N.CX X.prog X.w outer H s E e' s'') s' }
section
variable {X : Cx} {pins : List (Addr × Obj)} {σ : L2.St} {H : Hp} {s : Shared}
theorem act_N {CXg : CXT} {Eg : XK} {Ng : List Str} {qg : Str} {sg : Scope} {g f c' : Addr} {cdg pm ctv : Value} {params : Arguments} {body : Expr} {scope : Scope} {k i : Nat} {a : Str} {pn : List (Addr × Obj)} {xe : Value → Shared → Prop} {W : WX} {t : XK → TE} {p1 p2 : Pos}
    (I : Inv X pins σ H s) (L : LamS X.env.scope scope) (hf : s.heap.get? f = some (PySem.W.kla_obj "<lambda>" (X.env.qual ++ "<lambda>") params body scope (cloFrom X.env.cells scope.names []) pm c' ctv)) (hfn : H f = none) (hfr : f ∉ frs X.stack)
    (hbind : bindArgs (PySem.W.kla_fn "<lambda>" (X.env.qual ++ "<lambda>") params body scope (cloFrom X.env.cells scope.names []) pm (.ref c') ctv) ⟨[], []⟩ = pure [])
    (tk : L2N.Takes ((cxOf CXg X.prog X.w X.K X.mg X.base Ng qg sg g cdg X.A X.stack s H Eg).tr pn xe) W) (hr : Room (k + 1) (X.A.deeper (envOfC qg sg s.heap.objs.size g cdg)))
    (hbody : ∀ (A : Around) (outer : List Env) (s : Shared) (H : Hp) (E : XK), Room k (A.deeper (lamEnv X scope s.heap.objs.size f c')) → PE (lamN X A outer s H E scope f c') body (t E))
    (hN : Ng[i]? = some a) (hv : Vis sg a) (hd : (a == ("__debug__" : Str)) = false := by decide) (hcd : (a == ("__classdict__" : Str)) = false := by decide) :
    PE ((cxOf CXg X.prog X.w X.K X.mg X.base Ng qg sg g cdg X.A X.stack s H Eg).tr pn xe) (.Call (.Name a p1) [] [] p2)
      (fun σZ HZ Q => σZ[i]? = some (some (.ref f)) ∧ HZ c' = some (CodeO c' (X.env.qual ++ "<lambda>")) ∧ t (fun cls d H' => W cls d σZ H') σ HZ Q) := by
  refine ⟨fun pinsZ sZ σZ HZ Q IZ h => ?_⟩
  obtain ⟨hs, hc, ht⟩ := h
  refine wpAny_Call_Name_kw (thn ((pe_var (pos := p1) (i := i) hN hv hd hcd).run pinsZ sZ σZ HZ (fun v H1 => v = .ref f ∧ H1 = HZ) IZ ⟨.ref f, hs, rfl, rfl⟩) fun u s1 ⟨v, H1, I1, r1, ev, eH⟩ => ?_)
  subst ev eH
  obtain rfl : u = Value.ref f := r1
  have of1 : s1.heap.get? f = some (PySem.W.kla_obj "<lambda>" (X.env.qual ++ "<lambda>") params body scope (cloFrom X.env.cells scope.names []) pm c' ctv) := I1.base.keep f _ hf hfn hfr (fun z => nomatch (show f ∈ ([] : List Addr) from z))
  refine PySem.W.callWith_F0 ⟨_, _, _, _, of1⟩ ?_
  have un : Un (frs X.stack) [] H H1 s.heap s1.heap := I1.base
  obtain ⟨⟨oc, vs, tt, hoc, hdc, hvc⟩, _, _⟩ := I1.hok c' _ hc
  have rc : codeAny (model X.prog X.w) (X.A.deeper (envOfC qg sg s.heap.objs.size g cdg)) (.call (.ref f) ⟨[], []⟩) (CR (L2N.CX X.prog X.w) (envOfC qg sg s.heap.objs.size g cdg :: X.stack) X.prog X.w H1 s1 Q (fun cls d H' => W cls d σZ H')) s1 := by
    refine PySem.W.kla_callFunE hr.depth of1 rfl L.co L.gen rfl ⟨c', oc, vs, tt, rfl, hoc, hdc, hvc⟩ ?_
    rw [hbind]
    refine wpAny_pure (wpAny_newFunctionEnv (fun y hy => (L.own y hy).2) (fun y hy => absurd hy (by simp)) (fun h₁ hns hsb => ⟨I1.nolimit.fresh _ hsb, ?_⟩) L.kind)
    show codeAny _ _ (.expr body (lamEnv X scope s1.heap.objs.size f c')) _ _
    have kp : ∀ b o, s1.heap.get? b = some o → h₁.get? b = some o := fun b o e => hsb.extBut b o (Nat.ne_of_lt (Heap.lt_size e)) (Heap.get?_push_of_some _ e)
    have J := lam_start2 (f := f) (c' := c') (E := fun cls d H' => W cls d σZ H') (tk := s1.toks + ([] : List (Str × Value)).length) I L I1.env0 hr.hd un hns kp
    have J' : Inv (lamN X (X.A.deeper (envOfC qg sg s.heap.objs.size g cdg)) (envOfC qg sg s.heap.objs.size g cdg :: X.stack) s1 H1 (fun cls d H' => W cls d σZ H') scope f c') [] σ H1 { s1 with heap := h₁, toks := s1.toks + ([] : List (Str × Value)).length } :=
      ⟨⟨J.ok.mod, J.ok.kind, J.ok.glob, J.ok.blt, J.ok.above, J.ok.inj, J.ok.has, J.ok.cab, J.ok.hd, J.ok.frames, J.ok.stk, J.ok.exf, J.ok.bs, J.ok.bsz, J.ok.noex, J.ok.exfs, J.ok.funs, J.ok.frf⟩, J.os, J.bare, J.base, J.loc, J.cell, J.free, J.freeC, J.pin, J.hok, J.len⟩
    refine PySem.W.kla_codeExpr (wpAny_mono ((hbody _ _ s1 H1 _ (hr.deeper _)).run [] _ _ H1 Q J' ht) (fun v s' hq => ?_) fun e s' hq => hq)
    obtain ⟨w', H', J', rv, q⟩ := hq
    exact ⟨w', H', J'.os, J'.bare, J'.base, J'.hok, rv, q⟩
  refine wpAny_call (codeAny_mono rc fun r s' hq => ?_)
  cases r with
  | error e => exact L2N.passAt tk σZ pinsZ H1 s1 e s' I1 hq
  | ok fl =>
    cases fl with
    | ret u => exact I1.after hq
    | next => exact False.elim hq
    | brk => exact False.elim hq
    | cont => exact False.elim hq
end
/-- the words of an error's classes -/
def nmTab : List (Str × Str) := [("InvalidStage", "stage value"), ("InvalidChain", "chain value"), ("InvalidCourse", "course value"), ("InvalidBeat", "beat value"), ("InvalidPattern", "pattern value"), ("InvalidNumber", "number value"),
  ("InvalidSeen", "seen value"), ("Unlike", "unlike value"), ("NothingToUndo", "undo value"), ("InvalidText", "text value"), ("TooMany", "many value"), ("Wrong", "wrong value"), ("StopError", "value")]
def nmOf (c : Str) : Str := (nmTab.lookup c).getD ""
def isTab (P : Addr) (q : Str) : Ob → Bool
  | .tab P' q' => decide (P' = P) && decide (q' = q)
  | _ => false
/-- _law_error(lambda: A); cs: the classes that A may raise -/
def dErr (cs : List Str) (P : Addr) (q : Str) (A : DE) : DE := fun ρ S => if S.any (isTab P q) then match A ρ S with
  | .ok _ S1 => .ok (.pv (.str "")) S1
  | .err c _ S1 => if c ∈ cs then .ok (.pv (.str (nmOf c))) S1 else .bad
  | .bad => .bad
  else .bad
/-- the defs _law_error and _law_names, and the classes -/
structure ErrD (P : Program) (w : World) (K : PySem.W.Frag) (mg : Str → Option Value) (base : Heap) (cs : List Str) where
  (g f SE : Addr) (fdg fdn : FuncData) (stg stn : Stmt) (Ng Nn : List Str) (a en e' : Str) (p1 p2 p3 p4 p5 p6 p7 p8 p9 p10 p11 p12 : Pos) (j : Nat)
  Fg : Fun K "_law_error" "_law_error" stg g fdg
  Sg : FnScope Ng [a] (defScope stg)
  bg : Binds K fdg [a] []
  mG : mg "_law_error" = some (.ref g)
  bodyG : defBody stg = [.Try [.Expr (.Call (.Name a p1) [] [] p2) p3] [.ExceptHandler (some (.Name "StopError" p4)) (some en) [.Return (some (.Call (.Name "_law_names" p5) [.Name en p6] [] p7)) p8] p9] [] [] p10, .Return (some (.Constant (.str "") j p11)) p12]
  va : Vis (defScope stg) a
  N0 : Ng[0]? = some a
  N1 : Ng[1]? = some en
  le : (defScope stg).names.lookup en = some .local
  gS : (defScope stg).names.lookup ("StopError" : Str) = some NameKind.globalImplicit
  gN : (defScope stg).names.lookup ("_law_names" : Str) = some NameKind.globalImplicit
  da : (a == ("__debug__" : Str)) = false
  ca : (a == ("__classdict__" : Str)) = false
  de : (en == ("__debug__" : Str)) = false
  ce : (en == ("__classdict__" : Str)) = false
  mS : mg "StopError" = some (.ref SE)
  Fn : Fun K "_law_names" "_law_names" stn f fdn
  Sn : FnScope Nn [e'] (defScope stn)
  N5 : 4 < Nn.length
  bn : Binds K fdn [e'] []
  mN : mg "_law_names" = some (.ref f)
  cls : ∀ c ∈ cs, ∃ C, mg c = some (.ref C) ∧ PySem.W.exmOne K (.ref C) (.ref SE) = some true ∧ ∀ (a : Addr) (d : Option Addr) (oe : Obj), L2N.Zn (.ref C) d oe → (∃ vs, oe.data = .fields vs) → ∀ (A : Around) (outer : List Env) (s : Shared) (H : Hp) (E : XK), A.handled = some (.ref a) →
    PSs (cxH C8.CX0 P w K mg base Nn "_law_names" (defScope stn) f fdn.code A outer s H E (a, oe)) (defBody stn) (fun D σ H => σ[0]? = some (some (V.ref a)) ∧ 4 < σ.length ∧ DOk d H ∧ ∀ H', Kp H H' → D.rt (.str (nmOf c)) H')
theorem RepS.nt {P : Program} {w : World} {K : PySem.W.Frag} {m : Mp} {H H1 : Hp} {S : Sto} (r : RepS P w K m H S) (e : ExtN H H1) (t : Tabs m.tb H1) : RepS P w K m H1 S := by
  have x : Ext m H m H1 := ⟨fun a o h _ n => e a o h n, fun _ h => .inl h, fun _ h => .inl (.inr h), fun _ h => h, rfl, Nat.le_refl _, fun _ _ _ h => h⟩
  have g : Go P w K m H m H1 := Go.of r.mok x
  refine ⟨r.len, fun a h => ⟨(r.av a h).1, let ⟨o, e1, n⟩ := (r.av a h).2; ⟨o, e a o e1 n, n⟩⟩, t, r.nd, fun l o h2 => ?_⟩
  rcases r.ob l o h2 with q | ⟨a, h1, q⟩
  · exact .inl q
  refine .inr ⟨a, h1, ?_⟩
  cases o with
  | lst xs => obtain ⟨us, e1, q⟩ := q; exact ⟨us, e a _ e1 (fun _ z => by cases z), Reps.go g xs us q⟩
  | dct kvs => obtain ⟨xs, e1, y, z, d, q⟩ := q; exact ⟨xs, e a _ e1 (fun _ z => by unfold DictO at z; cases z), y, z, d, RepK.go g kvs xs.l q⟩
  | dead => exact q
  | tab _ _ => exact q
theorem Ext.nt {m : Mp} {H H1 : Hp} (e : ExtN H H1) : Ext m H m H1 := ⟨fun a o h _ n => e a o h n, fun _ h => .inl h, fun _ h => .inl (.inr h), fun _ h => h, rfl, Nat.le_refl _, fun _ _ _ h => h⟩
theorem tab_of {P : Program} {w : World} {K : PySem.W.Frag} {m : Mp} {H : Hp} {S : Sto} {T : Addr} {q : Str} (r : RepS P w K m H S) (h : S.any (isTab T q) = true) : (T, q) ∈ m.tb ∧ ∀ p ∈ m.tb, p.1 = T → p.2 = q := by
  obtain ⟨o, ho, e⟩ := List.any_eq_true.mp h
  obtain ⟨l, hl⟩ := List.mem_iff_getElem?.mp ho
  cases o with
  | tab P' q' =>
    simp only [isTab, Bool.and_eq_true, decide_eq_true_eq] at e
    obtain ⟨rfl, rfl⟩ := e
    rcases r.ob l _ hl with ⟨q, _⟩ | ⟨_, _, q⟩
    · exact q
    · exact q.elim
  | _ => cases e
theorem takesN0 {X : Cx} : L2N.Takes X (fun _ _ _ _ => False) := fun _ _ x => by
  obtain ⟨_, _, _, _, _, _, _, _, _, _, _, _, _, _, _, _, z⟩ := x
  exact z.elim
section
variable {X : Cx} {W : WX} {cs : List Str}
/-- the suite: return _law_names(e) -/
theorem names_call (LE : ErrD X.prog X.w X.K X.mg X.base cs) {k : Nat} (hN : X.N = LE.Ng) (hsc : X.env.scope = defScope LE.stg) (hr : Room (k + 1) X.A) {a : Addr} {oe : Obj} {cls : Value} {d : Option Addr} {pn : List (Addr × Obj)} (hz : L2N.Zn cls d oe) (hf : ∃ vs, oe.data = .fields vs) {p5 p6 p7 p8 : Pos} :
    PSs (X.suite a ((a, oe) :: pn)) [.Return (some (.Call (.Name "_law_names" p5) [.Name LE.en p6] [] p7)) p8]
      (fun D σ H => ∃ c C, c ∈ cs ∧ X.mg c = some (.ref C) ∧ cls = .ref C ∧ σ[1]? = some (some (.ref a)) ∧ DOk d H ∧ ∀ H', Kp H H' → D.rt (.str (nmOf c)) H') := by
  refine PSs.imp (pss_one (ps_ret (te := fun σ H Q => ∃ c C, c ∈ cs ∧ X.mg c = some (.ref C) ∧ cls = .ref C ∧ σ[1]? = some (some (.ref a)) ∧ DOk d H ∧ ∀ H', Kp H H' → Q (.str (nmOf c)) H') ⟨fun pins s σ H Q I ⟨c, C, hc, hm, ec, es, hd, hq⟩ => ?_⟩)) fun D σ H h => h
  have gN : Gl (X.suite a ((a, oe) :: pn)) "_law_names" := by show X.env.scope.names.lookup _ = _; rw [hsc]; exact LE.gN
  have ha : PA (X.suite a ((a, oe) :: pn)) [.Name LE.en p6] (tCons (tVar 1) tNil) := pa_cons (pe_var (i := 1) (by rw [hN]; exact LE.N1) (.inl (by rw [hsc]; exact LE.le)) LE.de LE.ce) pa_nil
  refine wpAny_Call_Name_kw (ld_glob I gN LE.mN ?_ (by decide))
  refine PySem.W.callWith_K (h₀ := X.base) I.ok.mod.kin LE.Fn.kp (thn (ha.run p7 pins s σ H (fun vs H1 => vs = [V.ref a] ∧ H1 = H) I ⟨_, es, rfl, rfl⟩) fun us s1 ⟨vs, H1, I1, r, ev, eH⟩ => ⟨I1.kIn, ?_⟩) (by rfl) (by rfl)
  subst ev eH
  obtain ⟨u, rfl, ru⟩ := vals1 r
  obtain rfl : u = Value.ref a := ru
  obtain ⟨C', hm', _, hb⟩ := LE.cls c hc
  have e2 : C' = C := by rw [hm] at hm'; cases hm'; rfl
  subst e2 ec
  exact run_names (X := X.suite a ((a, oe) :: pn)) (k := k) LE.Fn LE.Sn LE.N5 ⟨hr.dp, hr.un⟩ ⟨List.mem_cons_self, hz, hf, rfl⟩ LE.bn (fun A outer s H E hh => hb a d oe hz hf A outer s H E hh) I1 hd hq
end
end Mi
set_option maxHeartbeats 4000000
namespace Mi
open PySem PySem.Spec PyProof.Rows L2 HotX L2H LamX
section
variable {X : Cx} {W : WX} {cs : List Str}
theorem r_err {c P : Addr} {q : Str} {A : DE} {k : Nat} {params : Arguments} {body : Expr} {scope : Scope} {p lpos pos : Pos} (LE : ErrD X.prog X.w X.K X.mg X.base cs) (TB : TabB X.base X.mg c P) (hcode : X.env.code = .ref c) (hq : q = X.env.qual ++ "<lambda>") (hr : Room (k + 2) X.A)
    (L : LamS X.env.scope scope) (hbind : ∀ (q : Str) (cl : List (Str × Addr)) (pm cv ctv : Value), bindArgs (PySem.W.kla_fn "<lambda>" q params body scope cl pm cv ctv) ⟨[], []⟩ = pure [])
    (hbody : ∀ (A' : Around) (outer : List Env) (s : Shared) (H : Hp) (E : XK) (f c' : Addr), Room k (A'.deeper (lamEnv X scope s.heap.objs.size f c')) → L2N.Takes (lamN X A' outer s H E scope f c') (fun cls d _ H => E cls d H) → PEv (lamN X A' outer s H E scope f c') (fun cls d _ H => E cls d H) body A)
    (hdef : defaultsOf params X.env = ([], []) := by rfl) (hg : Gl X "_law_error" := by rfl) : PEv X W (.Call (.Name "_law_error" p) [.Lambda params body scope lpos] [] pos) (dErr cs P q A) := by
  refine ⟨fun pins s σ H Q I ⟨m, ρ, S, R, h⟩ => ?_⟩
  unfold dErr at h
  split at h
  case isFalse => exact h.elim
  rename_i hS
  obtain ⟨hmT, hu⟩ := tab_of R.s hS
  subst hq
  refine wpAny_Call_Name_kw (ld_glob I hg LE.mG ?_ (by decide))
  refine PySem.W.callWith_K (h₀ := X.base) I.ok.mod.kin LE.Fg.kp ?_ (by rfl) (by rfl)
  show wpAny _ _ (spliced ((false, eval (.Lambda params body scope lpos) X.env) :: backTo pos (starEach [] X.env))) _ _ s
  refine Calls.spliced_cons (lam_make2 I TB hcode hmT hu R.s.tabs hdef (L.has I.ok) fun f c' pm' ctv H1 s' I1 eN T1 hf hfn hfr hco => ?_)
  refine Calls.spliced_nil ⟨I1.kIn, ?_⟩
  obtain ⟨oc, od, kV, doc, pm, an, cdv, ct, osl, efd, lk, hcd⟩ := LE.Fg.ex
  have R1 : Rd0 (Gx.of X) m ρ S σ H1 := R.ext (Ext.nt eN) (R.s.nt eN T1)
  have hlen : 1 < LE.Ng.length := (List.getElem?_eq_some_iff.mp LE.N1).1
  have b := LE.bg s' [.ref f] I1.kIn rfl
  rw [List.append_nil] at b
  have rc : codeAny (model X.prog X.w) X.A (.call (.ref LE.g) ⟨[.ref f], []⟩) (CR C8.CX0 X.stack X.prog X.w H1 s' Q C8.E0) s' := by
    rw [efd] at b lk
    refine run_ofS (N := LE.Ng) (ps := [LE.a]) (us := [.ref f]) (vs := [.ref f]) lk hcd LE.Sg hr I1.env0 b (.cons rfl .nil) rfl fun hr' => ?_
    rw [LE.bodyG]
    have hN : (L2.start LE.Ng [V.ref f])[0]? = some (some (V.ref f)) := rfl
    refine ⟨_, pss_cons (L2N.ps_try_as (X := cxOf C8.CX0 X.prog X.w X.K X.mg X.base LE.Ng "_law_error" (defScope LE.stg) LE.g cdv X.A X.stack s' H1 C8.E0) (x := "StopError") (n := LE.en) (c := .ref LE.SE) (i := 1) (Wout := fun _ _ _ _ => False)
      (tb := fun Wt D σZ HZ => σZ[0]? = some (some (.ref f)) ∧ HZ c' = some (CodeO c' (X.env.qual ++ "<lambda>")) ∧ tev (Gx.of X) (fun cls d _ H' => Wt cls d σZ H') A σ HZ (fun _ H2 => D.nx σZ H2))
      (ts := fun a cls d D σ H => ∃ c C, c ∈ cs ∧ X.mg c = some (.ref C) ∧ cls = .ref C ∧ σ[1]? = some (some (.ref a)) ∧ DOk d H ∧ ∀ H', Kp H H' → D.rt (.str (nmOf c)) H')
      rfl rfl LE.Sg.nd LE.N1 LE.le ⟨LE.gS, by decide, .inl LE.mS⟩ takesN0 (fun Wt pn xe tk _ => ?_) (fun a oe cls d pn hz hf => names_call (X := cxOf C8.CX0 X.prog X.w X.K X.mg X.base LE.Ng "_law_error" (defScope LE.stg) LE.g cdv X.A X.stack s' H1 C8.E0) (k := k) LE rfl rfl hr' hz hf))
      (pss_one (ps_ret pe_str)), hN, hco, m, ρ, S, R1, ?_⟩
    · exact pss_one (ps_expr (act_N (t := fun E σ H Q => tev (Gx.of X) (fun cls d _ H => E cls d H) A σ H Q) I1 L hf hfn hfr (hbind _ _ _ _ _) tk hr' (fun A' outer s H E hr2 => hbody A' outer s H E f c' hr2 (L2N.takes_of rfl rfl rfl rfl)) LE.N0 LE.va LE.da LE.ca))
    · revert h
      cases A ρ S with
      | bad => exact fun z => z
      | ok v S1 => exact fun h m' H' v e r _ => h m' H' (.str "") ((Ext.nt eN).trans e) r rfl
      | err c f S1 =>
        intro h m' H' cls d e r rx
        simp only at h
        split at h
        case isFalse => exact h.elim
        rename_i hc
        obtain ⟨C, hm, rfl, hd⟩ := rx
        obtain ⟨C', hm', hx, _⟩ := LE.cls c hc
        have e2 : C' = C := by rw [show X.mg c = some (.ref C) from hm] at hm'; cases hm'; rfl
        subst e2
        refine ⟨true, hx, fun _ a na => ⟨c, C', hc, hm, rfl, ?_, ?_, fun H2 kp => h m' H2 _ ((Ext.nt eN).trans (e.trans (Ext.same kp))) (r.same kp) rfl⟩, fun z => by cases z⟩
        · rw [List.getElem?_set_self (by unfold L2.start; simp; omega)]
        · cases f with
          | none => exact .inl hd
          | some np => obtain ⟨dx, v, h1, h2, _⟩ := hd; exact .inr ⟨dx, _, h1, h2⟩
  refine wpAny_call (codeAny_mono rc fun r s2 hq => ?_)
  cases r with
  | error e => exact (show False from hq).elim
  | ok fl =>
    cases fl with
    | ret u => exact I1.after hq
    | next => exact False.elim hq
    | brk => exact False.elim hq
    | cont => exact False.elim hq
end
end Mi
set_option maxHeartbeats 4000000
namespace Mi
open PySem PySem.Spec PyProof.Rows L2 HotX L2H LamX
/-- what the head tells: facts fa, defs fn -/
structure Tx (fa : List He.Fa) (fn : List He.DefD) (K : PySem.W.Frag) (mg : Str → Option Value) : Prop where
  gl : ∀ x, He.Fa.glo x ∈ fa → mg x = some (.ref (He.ga K x))
  fr : ∀ x, He.Fa.free x ∈ fa → mg x = none
  it : ∀ x i, He.Fa.int x i ∈ fa → ∃ t, mg x = some (.int i t)
  ft : ∀ f, f ∈ fa → f.ok K = true
  df : ∀ d, d ∈ fn → ∃ fd, FunD K d.name d.qual d.params d.body d.scope (d.dvs K) (d.kws K) (He.fAd K d.at_) fd
theorem Tx.of {fa : List He.Fa} {fn : List He.DefD} {K : PySem.W.Frag} {mg : Str → Option Value} {h : Heap} (KX : K.In h) (G : h.Ns mainGlobals mg) (c : He.SaysD fa fn K) : Tx fa fn K mg :=
  ⟨fun x hx => He.glo_ok KX G (c.facts hx), fun x hx => He.free_ok KX G (c.facts hx), fun x i hx => He.int_ok KX G (c.facts hx), fun f hf => c.facts hf, fun d hd => c.defs hd⟩
/-- a def of the top, as the head wants it -/
abbrev dOf (x : Str) (st : Stmt) : He.DefD := ⟨(x, none), x, x, defArgs st, defBody st, defScope st, [], []⟩
theorem funD_fun {K : PySem.W.Frag} {x qual : Str} {st : Stmt} {f : Addr} {fd : FuncData} (F : FunD K x qual (defArgs st) (defBody st) (defScope st) [] [] f fd) : Fun K x qual st f fd := by
  obtain ⟨⟨oc, od, dV, kV, doc, pm, an, cdv, ct, osl, e, lk, hcd, hd, _⟩, kp⟩ := F
  have hV : dV = .none := hd.elim (fun z => z.2) fun z => absurd rfl z.1
  subst hV
  exact ⟨⟨oc, od, kV, doc, pm, an, cdv, ct, osl, e, lk, hcd⟩, kp⟩
/-- the def x keeps the promise F, at the level k -/
structure DefOk (P : Program) (w : World) (K : PySem.W.Frag) (mg : Str → Option Value) (base : Heap) (k : Nat) (x : Str) (n : Nat) (F : Fn) : Prop where
  ex : ∃ f fd ps, FnOk P w K mg base (L2N.CX P w) k f fd ps (spF ⟨P, w, K, mg⟩ n F) ∧ mg x = some (.ref f) ∧ PySem.W.keepIn K (.ref f) = true ∧ Binds K fd ps []
theorem def_ok {fa : List He.Fa} {fn : List He.DefD} {P : Program} {w : World} {K : PySem.W.Frag} {mg : Str → Option Value} {base : Heap} {x : Str} {st : Stmt} {N ps : List Str} {k : Nat} {B : DS} (T : Tx fa fn K mg) (hd : dOf x st ∈ fn) (hx : He.Fa.glo x ∈ fa) (S : FnScope N ps (defScope st))
    (hb : ∀ (kV doc pm : Value) (an : Option Addr) (cdv ct : Value) (us : List Value), us.length = ps.length → bindArgs (PySem.W.fnOf x x (defArgs st) (defBody st) (defScope st) .none kV doc pm an cdv ct) ⟨us, []⟩ = pure (ps.zip us))
    (hbody : ∀ (fd : FuncData) (A : Around) (outer : List Env) (s : Shared) (H : Hp) (E : XK), FunD K x x (defArgs st) (defBody st) (defScope st) [] [] (He.ga K x) fd → Room k (A.deeper (envOfC x (defScope st) s.heap.objs.size (He.ga K x) fd.code)) → L2N.Takes (cxOf (L2N.CX P w) P w K mg base N x (defScope st) (He.ga K x) fd.code A outer s H E) (fun cls d _ H => E cls d H) →
      PSs (cxOf (L2N.CX P w) P w K mg base N x (defScope st) (He.ga K x) fd.code A outer s H E) (defBody st) (tevS ⟨P, w, K, mg⟩ (fun cls d _ H => E cls d H) B)) :
    DefOk P w K mg base (k + 1) x ps.length (dFun ps.length N.length B) := by
  obtain ⟨fd, F⟩ := T.df _ hd
  have F : FunD K x x (defArgs st) (defBody st) (defScope st) [] [] (He.ga K x) fd := F
  exact ⟨_, fd, ps, fnok (funD_fun F) S (fun A outer s H E hr tk => hbody fd A outer s H E F hr tk), T.gl x hx, F.kp, F.bindsN hb⟩
section
variable {X : Cx} {W : WX} {pos : Pos} {A B C : DE} {a b c tg : Expr} {es rest : List Expr} {As : DA} {T T' : DT}
theorem r_callD {x : Str} {k n : Nat} {F : Fn} {p : Pos} (Fk : DefOk X.prog X.w X.K X.mg X.base k x n F) (tk : L2N.Takes X W) (hr : Room k X.A) (hF : Ar n F) (ha : PAv X W (a :: es) As) (hg : Gl X x := by rfl) (hdb : (x == ("__debug__" : Str)) = false := by decide) (he : starEach (a :: es) X.env = (false, eval a X.env) :: starEach es X.env := by rfl)
    (hpl : (backTo pos (starEach es X.env)).any (·.1) = false := by rfl) : PEv X W (.Call (.Name x p) (a :: es) [] pos) (dCall F As) := by
  obtain ⟨f, fd, ps, hf, hm, hk, hb⟩ := Fk.ex
  exact r_call hf tk hr hm hk hb hF ha hg hdb he hpl
def dNeg (A : DE) : DE := fun ρ S => (A ρ S).bind fun x S1 => match x with
  | .pv (.int i) => .ok (.pv (.int (-i))) S1
  | _ => .bad
theorem r_neg (ha : PEv X W a A) : PEv X W (.UnaryOp .USub a pos) (dNeg A) := PE.imp (pe_un un_neg ha) fun σ H Q q => tev_get (tev_top q) fun v H' ⟨m1, S1, x, s1, r1, h1⟩ => by
  split at h1
  · exact ⟨_, r1, post_ok h1 s1 rfl⟩
  · exact h1.elim
/-- two values -/
theorem tev2 {k : Val → Val → Sto → Res (List Val)} {σ : L2.St} {H : Hp} {R : It → Hp → Prop} (h : tevI (Gx.of X) W (fun ρ S => (A ρ S).bind fun x S1 => (B ρ S1).bind fun y S2 => k x y S2) σ H R) :
    tev (Gx.of X) W A σ H fun u H1 => tev (Gx.of X) W B σ H1 fun v H2 => ∃ m S x y, RepS X.prog X.w X.K m H2 S ∧ RepV X.prog X.w X.K m H2 X.mg x u ∧ RepV X.prog X.w X.K m H2 X.mg y v ∧ PostI (Gx.of X) W σ m H2 (k x y S) R := by
  obtain ⟨m, ρ, S, R0, h⟩ := h
  refine ⟨m, ρ, S, R0, ?_⟩
  have h : PostI (Gx.of X) W σ m H ((A ρ S).bind _) R := h
  revert h
  cases A ρ S with
  | err c f S => exact fun z => z
  | bad => exact fun z => z
  | ok x S1 =>
    intro h m1 H1 u e s r
    refine ⟨m1, ρ, S1, R0.ext e s, ?_⟩
    have h : PostI (Gx.of X) W σ m1 H1 ((B ρ S1).bind _) R := PostI.ext (G := Gx.of X) h e
    revert h
    cases B ρ S1 with
    | err c f S => exact fun z => z
    | bad => exact fun z => z
    | ok y S2 => exact fun h m2 H2 v e2 s2 r2 => ⟨m2, S2, x, y, s2, RepV.ext r s.mok e2, r2, PostI.ext (G := Gx.of X) h e2⟩
theorem i_rng2 {p : Pos} (hm : X.mg "range" = none) (ha : PEv X W a A) (hb : PEv X W b B) (hg : Gl X "range" := by rfl) (hs : starEach [a, b] X.env = [(false, eval a X.env), (false, eval b X.env)] := by rfl) (hs2 : starEach [b] X.env = [(false, eval b X.env)] := by rfl) :
    PIv X W tg (.Call (.Name "range" p) [a, b] [] pos) (dRng2 A B) :=
  PI.imp (pi_range2 hg hm (pa_cons ha (pa_cons hb pa_nil hs2) (by rw [hs, hs2])) hs hs2) fun σ H R h => tev_get (tev2 h) fun u H1 q => tev_get q fun v H2 ⟨m, S, x, y, s, rx, ry, q2⟩ => by
    split at q2
    · rename_i i j
      rw [rngOf_eq] at q2
      unfold rngRaw at q2
      split at q2
      · rename_i hz
        simp only [Bool.and_eq_true, decide_eq_true_eq] at hz
        cases rx; cases ry
        exact ⟨i, j, rfl, ⟨hz.1.1.1, hz.1.1.2, hz.1.2, hz.2⟩, q2 m H2 _ (Ext.refl _ _) s jok_rng⟩
      · exact q2.elim
    · exact q2.elim
def dPar3 (i j l : Nat) (As : DA) : DS := fun ρ S => (As ρ S).s ρ fun xs S1 => match xs with
  | [x, y, z] => .next (((ρ.set i (some x)).set j (some y)).set l (some z)) S1
  | _ => .bad
theorem s_par3 {i j l : Nat} {x y z : Str} {px py pz pt : Pos} {kt k2 pt2} (hc : X.calm = true) (hN : X.N.Nodup) (hij : i ≠ j) (hil : i ≠ l) (hjl : j ≠ l) (ha : PAv X W [a, b, c] As)
    (hw : swappedStores [.Tuple [.Name x px, .Name y py, .Name z pz] kt pt] (.Tuple [a, b, c] k2 pt2) X.env = pure (some [x, y, z]) := by rfl) (hi : X.N[i]? = some x := by rfl) (hj : X.N[j]? = some y := by rfl) (hl : X.N[l]? = some z := by rfl)
    (hx : X.env.scope.names.lookup x = some .local := by rfl) (hy : X.env.scope.names.lookup y = some .local := by rfl) (hz : X.env.scope.names.lookup z = some .local := by rfl)
    (hs : swapsWithSole [.Tuple [.Name x px, .Name y py, .Name z pz] kt pt] (.Tuple [a, b, c] k2 pt2) pos.line X.env = pure false := by rfl) : PSv X W (.Assign [.Tuple [.Name x px, .Name y py, .Name z pz] kt pt] (.Tuple [a, b, c] k2 pt2) pos) (dPar3 i j l As) :=
  PS.imp (ps_par3 (pos := pos) hc hN hi hj hl hij hil hjl hx hy hz ha hw hs) fun D σ H h => tevA_get (tevSA_top (k := fun ρ xs S1 => match xs with | [x, y, z] => .next (((ρ.set i (some x)).set j (some y)).set l (some z)) S1 | _ => .bad) h) fun us H1 ⟨m1, S1, xs, ρ, R, r, h⟩ => by
    split at h
    · obtain ⟨u, us, rfl, r1, u2, us2, rfl, r2, u3, us3, rfl, r3, r4⟩ := r
      cases r4
      exact ⟨u, u2, u3, rfl, h m1 H1 _ (Ext.refl _ _) (((R.set i r1).set j r2).set l r3)⟩
    · exact h.elim
end
end Mi
set_option maxHeartbeats 4000000
namespace Mi
open PySem PySem.Spec PyProof.Rows L2 HotX L2H LamX
theorem M {α : Type} {l : List α} {x : α} (i : Nat) (h : l[i]? = some x := by rfl) : x ∈ l := List.mem_of_getElem? h
theorem hu64 {k : Nat} {A : Around} (r : Room k A) : A.units + 64 < cLine := by have := r.un; omega
theorem hu65 {k : Nat} {A : Around} (r : Room k A) : A.units + 65 < cLine := by have := r.un; omega
abbrev b2max : Fn := b2 fun i j => if j > i then j else i
abbrev b2min : Fn := b2 fun i j => if j < i then j else i
abbrev tCd (K : PySem.W.Frag) (x : Str) : Addr := (He.cT K (x, none)).1
abbrev tP (K : PySem.W.Frag) (x : Str) : Addr := (He.cT K (x, none)).2
/-- a comprehension's scope, by a Bool -/
def blkB (N : List Str) (sc scope : Scope) (own : List (Str × Nat)) : Bool :=
  decide (scope.kind = .function) && scope.names.all (fun y => decide (scope.names.lookup y.1 = some y.2)) && own.all (fun p => decide (N[p.2]? = some p.1)) && scope.names.all (fun y => !decide (y.2 = .free) || decide (sc.names.lookup y.1 = some .cell) || decide (sc.names.lookup y.1 = some .free)) &&
    scope.names.all fun y => !(decide (y.2 = .local) || decide (y.2 = .cell)) || decide (y.1 ∈ own.map (·.1)) || decide (y.1 ∉ N)
theorem blk_by {N : List Str} {sc scope : Scope} {own : List (Str × Nat)} (h : blkB N sc scope own = true) : BlkOk N sc scope own := by
  unfold blkB at h
  simp only [Bool.and_eq_true, Bool.or_eq_true, Bool.not_eq_true', decide_eq_true_eq, decide_eq_false_iff_not, List.all_eq_true] at h
  obtain ⟨⟨⟨⟨h1, h2⟩, h3⟩, h4⟩, h5⟩ := h
  refine ⟨h1, h2, h3, fun y hy e => ?_, fun y hy e => ?_⟩
  · rcases h4 y hy with (z | z) | z
    · exact absurd e z
    · exact .inl z
    · exact .inr z
  · rcases h5 y hy with (z | z) | z
    · exact absurd e (by simpa [Bool.or_eq_false_iff] using z)
    · exact .inl z
    · exact .inr z
theorem def_bad {fa : List He.Fa} {fn : List He.DefD} {P : Program} {w : World} {K : PySem.W.Frag} {mg : Str → Option Value} {base : Heap} {x : Str} {st : Stmt} {ps : List Str} {k n : Nat} (T : Tx fa fn K mg) (hd : dOf x st ∈ fn) (hx : He.Fa.glo x ∈ fa)
    (hb : ∀ (kV doc pm : Value) (an : Option Addr) (cdv ct : Value) (us : List Value), us.length = ps.length → bindArgs (PySem.W.fnOf x x (defArgs st) (defBody st) (defScope st) .none kV doc pm an cdv ct) ⟨us, []⟩ = pure (ps.zip us)) : DefOk P w K mg base k x n fun _ _ => .bad := by
  obtain ⟨fd, F⟩ := T.df _ hd
  have F : FunD K x x (defArgs st) (defBody st) (defScope st) [] [] (He.ga K x) fd := F
  exact ⟨_, fd, ps, ⟨fun vs H Q E ⟨_, m, S, xs, _, _, h⟩ => h.elim, fun A outer s H args us vs Q E _ _ _ _ ⟨_, m, S, xs, _, _, h⟩ => h.elim⟩, T.gl x hx, F.kp, F.bindsN hb⟩
section
variable {X : Cx} {W : WX} {pos : Pos} {A B C : DE} {a b c tg : Expr} {es rest : List Expr} {As : DA} {T T' : DT}
theorem r_gintE {x : Str} {i : Int} (hg : Gl X x) (hm : ∃ t, X.mg x = some (.int i t)) (hd : (x == ("__debug__" : Str)) = false := by decide) : PEv X W (.Name x pos) (dC (.int i)) := by
  obtain ⟨t, h⟩ := hm
  exact r_gint hg h hd
theorem s_raiseE {x mt : Str} {j : Nat} {p p2 p3 : Pos} (hc : X.calm = true) (tk : L2N.Takes X W) (f : (He.Fa.exc x).ok X.K = true) (gC : X.mg x = some (.ref (He.ga X.K x))) (hg : Gl X x := by rfl) (hdb : (x == ("__debug__" : Str)) = false := by decide) :
    PSv X W (.Raise (some (.Call (.Name x p) [.Constant (.str mt) j p2] [] p3)) none pos) (dRaise x) := by
  obtain ⟨h1, h2, h3, h4⟩ := He.exc_ok f
  exact s_raise hc tk h1 gC h2 (raises_own h3 h4) hg hdb
/-- the object of a slot, from now on data -/
theorem r_fz (i : Nat) {x : Str} (hN : X.N[i]? = some x := by rfl) (hv : Vis X.env.scope x := by first | exact Or.inl rfl | exact Or.inr (Or.inl rfl) | exact Or.inr (Or.inr rfl)) (hd : (x == ("__debug__" : Str)) = false := by decide)
    (hcd : (x == ("__classdict__" : Str)) = false := by decide) : PEv X W (.Name x pos) (dFz i) := PE.imp (pe_var (i := i) hN hv hd hcd) fun σ H Q ⟨m, ρ, S, R, h⟩ => by
  unfold dFz at h
  have key : ∀ {l : Nat} {o : Ob} {p : PyData}, ρ[i]? = some (some (.loc l)) → S[l]? = some o → (¬ Gst m o) → (∀ (a : Addr), m.st[l]? = some (some a) → RepO X.prog X.w X.K m H a o → Rep X.prog X.w X.K { m with st := m.st.set l none } H p (.ref a)) →
      PostE (Gx.of X) W σ m H (.ok (.pv p) (S.set l .dead)) Q → ∃ v, σ[i]? = some (some v) ∧ Q v H := by
    intro l o p e eo ng hr hq
    obtain ⟨v, e1, r⟩ := R.e.at_ i _ e
    obtain ⟨a, ea, rfl, q⟩ := loc_at R.s r eo ng
    have hlt : l < m.st.length := r.1
    have get : ∀ {j : Nat} {b : Addr}, (m.st.set l none)[j]? = some (some b) → m.st[j]? = some (some b) := fun {j b} z => by
      by_cases hj : l = j
      · subst hj; rw [List.getElem?_set_self hlt] at z; cases z
      · rwa [List.getElem?_set_ne hj] at z
    have mem : ∀ {b : Addr}, some b ∈ m.st.set l none → some b ∈ m.st := fun {b} z => by
      obtain ⟨j, hj⟩ := List.mem_iff_getElem?.mp z
      exact List.mem_of_getElem? (get hj)
    have g : Go X.prog X.w X.K m H { m with st := m.st.set l none } H := Go.less fun b (z : some b ∈ m.st.set l none ∨ b ∈ m.av) => z.imp mem id
    refine ⟨_, e1, hq { m with st := m.st.set l none } H _ ⟨fun _ _ h _ _ => h, fun b z => .inl (mem z), fun _ h => .inl (.inr h), fun _ h => h, rfl, by simp, fun j b _ z => get z⟩ ?_ (hr a ea q)⟩
    refine ⟨by simp [R.s.len], fun b hb => ⟨fun z => (R.s.av b hb).1 (mem z), (R.s.av b hb).2⟩, R.s.tabs, fun j k b hj hk => R.s.nd j k b (get hj) (get hk), fun j o' ej => ?_⟩
    by_cases hj : l = j
    · subst hj
      rw [List.getElem?_set_self (by rw [← R.s.len]; exact hlt)] at ej
      cases ej
      exact .inl ⟨trivial, by rw [List.getElem?_set_self hlt]⟩
    · rw [List.getElem?_set_ne hj] at ej
      rcases R.s.ob j o' ej with ⟨z1, z2⟩ | ⟨b, eb, z⟩
      · refine .inl ⟨?_, by rw [List.getElem?_set_ne hj]; exact z2⟩
        cases o' <;> exact z1
      · refine .inr ⟨b, by rw [List.getElem?_set_ne hj]; exact eb, ?_⟩
        cases o' with
        | lst xs => obtain ⟨us, e1, z⟩ := z; exact ⟨us, e1, Reps.go g xs us z⟩
        | dct kvs => obtain ⟨xs, e1, y, zz, d, z⟩ := z; exact ⟨xs, e1, y, zz, d, RepK.go g kvs xs.l z⟩
        | dead => exact z
        | tab _ _ => exact z
  have less : ∀ (l : Nat) (a : Addr), m.st[l]? = some (some a) → l < m.st.length → ¬ Mp.has { m with st := m.st.set l none } a := fun l a ea hlt z => by
    rcases z with z | z
    · obtain ⟨j, hj⟩ := List.mem_iff_getElem?.mp z
      have hj : (m.st.set l none)[j]? = some (some a) := hj
      by_cases e : l = j
      · subst e; rw [List.getElem?_set_self hlt] at hj; cases hj
      · rw [List.getElem?_set_ne e] at hj; exact e (R.s.nd l j a ea hj)
    · exact (R.s.av a z).1 (List.mem_of_getElem? ea)
  have gg : ∀ l, Go X.prog X.w X.K m H { m with st := m.st.set l none } H := fun l => Go.less fun b (z : some b ∈ m.st.set l none ∨ b ∈ m.av) => z.imp (fun z => by
    obtain ⟨j, hj⟩ := List.mem_iff_getElem?.mp z
    by_cases e : l = j
    · subst e
      rw [List.getElem?_set] at hj
      simp at hj
    · rw [List.getElem?_set_ne e] at hj; exact List.mem_of_getElem? hj) id
  split at h
  · rename_i l e
    split at h
    · rename_i xs es
      refine key e es (fun z => z) (fun a ea ⟨us, hl, hr⟩ => ?_) h
      exact ⟨a, us, rfl, hl, less l a ea (List.getElem?_eq_some_iff.mp ea).1, Reps.go (gg l) _ _ hr⟩
    · rename_i kvs es
      refine key e es (fun z => z) (fun a ea ⟨xs, h1, h2, h3, h4, h5⟩ => ?_) h
      exact ⟨a, xs, rfl, less l a ea (List.getElem?_eq_some_iff.mp ea).1, h1, h2, h3, h4, RepK.go (gg l) _ _ h5⟩
    · exact h.elim
  · rename_i p e
    obtain ⟨v, e1, r⟩ := R.e.at_ i _ e
    exact ⟨v, e1, post_ok h R.s r⟩
  · exact h.elim
end
end Mi
set_option maxHeartbeats 4000000
namespace Mi
open PySem PySem.Spec PyProof.Rows L2
section
variable {prog : Program} {w : World} {A : Around} {E : Value → Shared → Prop} {s : Shared}
theorem slicePart_minus {t : Tok} {Q : Option Int → Shared → Prop} (h : Q (some (-1)) s) : wpAny (model prog w) A (Builtin.Slice.slicePartIndex (.int (-1) t)) Q E s := HT.slicePart_ (.int (-1) t) h
theorem pick_rev (xs : Array Value) : ((List.range xs.size).filterMap fun (m : Nat) => xs[(((xs.size : Int) - 1) + (m : Int) * (-1)).toNat]?).toArray = xs.toList.reverse.toArray := by
  have key : ∀ n (f g : Nat → Option Value), (∀ m, m < n → f m = g m) → (List.range n).filterMap f = (List.range n).filterMap g := by
    intro n
    induction n with
    | zero => intro f g _; rfl
    | succ n ih =>
      intro f g h
      rw [List.range_succ, List.filterMap_append, List.filterMap_append, ih f g fun m hm => h m (Nat.lt_succ_of_lt hm)]
      simp only [List.filterMap_cons, List.filterMap_nil, h n (Nat.lt_succ_self n)]
  have e : (List.range xs.size).filterMap (fun (m : Nat) => xs[(((xs.size : Int) - 1) + (m : Int) * (-1)).toNat]?) = (List.range xs.size).filterMap fun k => xs[xs.size - 1 - k]? :=
    key _ _ _ fun m hm => by
      have e2 : (((xs.size : Int) - 1) + (m : Int) * (-1)).toNat = xs.size - 1 - m := by omega
      rw [e2]
  rw [e]
  have h := PySem.W.krv_all xs
  have h2 := congrArg List.reverse h
  rw [← List.filterMap_reverse, ← PySem.W.krv_range, List.filterMap_map] at h2
  have e3 : ((fun x => xs[x]?) ∘ fun k => xs.size - 1 - k) = fun k => xs[xs.size - 1 - k]? := rfl
  rw [e3] at h2
  rw [h2]
theorem getItem_tuple_rev {t sl : Addr} {items : Array Value} {vl vu vs : Value} {Q : Value → Shared → Prop} (ht : IsTup s.heap t items) (hs : s.heap.IsSliceOf sl vl vu vs) (pl : IsPart vl none) (pu : IsPart vu none) (ps : IsPart vs (some (-1)))
    (h : Q (.ref s.heap.objs.size) { s with heap := s.heap.push { cls := .type "tuple", data := .seq items.toList.reverse.toArray } })
    (hsz : items.size ≤ sizeLine) : wpAny (model prog w) A (getItem (.ref t) (.ref sl)) Q E s := by
  have htake : sizeOk (.seq items.toList.reverse.toArray) := by
    show items.toList.reverse.toArray.size ≤ sizeLine
    simpa using hsz
  obtain ⟨os, hos, hcs, hds⟩ := id hs
  have hTs : s.TypeIs (.ref sl) "slice" := ⟨os, hos, hcs⟩
  unfold getItem
  try with_reducible refine wpAny_holding ?_
  first | refine wpAny_bind (wpAny_pure ?_) | skip
  refine wpAny_bind (wpAny_sequenceKey ht.typeIs (by decide) ?_)
  refine wpAny_bind (wpAny_callSpecial?_slot (name := Str.ofString "__getitem__") ht.typeIs PyProof.Rows.slot_tuple_getitem
    (wpAny_call_entry PyProof.Rows.slot_tuple_getitem ht.typeIs entry_tuple_getitem ?_ (args_tuple_getitem _ _)))
  show wpAny _ _ (Builtin.Tuple.tupleItemsOf (.ref t) >>= _) _ _ s
  refine wpAny_bind (PyProof.Rows.tupleItemsOf_ ht ?_)
  refine wpAny_bind (wpAny_typeOf hTs ?_)
  rw [if_pos (by decide)]
  have app : ∀ {Q : Int × Int × Nat → Shared → Prop}, Q (((items.size : Int) - 1), -1, items.size) s → wpAny (model prog w) A.in1 (Builtin.Slice.sliceApplied (.ref sl) (pure (items.size : Int))) Q E s := by
    intro Q q
    unfold Builtin.Slice.sliceApplied Builtin.Slice.sliceFields
    refine wpAny_bind (wpAny_bind (wpAny_field hos hds (x := vl) rfl (wpAny_bind (wpAny_field hos hds (x := vu) rfl (wpAny_bind (wpAny_field hos hds (x := vs) rfl (wpAny_pure ?_)))))))
    refine wpAny_bind (HT.slicePart_ ps ?_)
    show wpAny _ _ (if ((-1 : Int) == 0) = true then _ else _) _ _ s
    rw [if_neg (by decide)]
    refine wpAny_bind (HT.slicePart_ pl (wpAny_bind (HT.slicePart_ pu (wpAny_bind (wpAny_pure ?_)))))
    show wpAny _ _ (match Builtin.Slice.sliceAdjust none none (-1) (items.size : Int) with | (lo, hi) => pure (lo, (-1 : Int), Builtin.Slice.slicePlaces lo hi (-1))) _ _ s
    have e1 : Builtin.Slice.sliceAdjust none none (-1) (items.size : Int) = ((items.size : Int) - 1, -1) := by
      unfold Builtin.Slice.sliceAdjust
      first | rfl | simp
    have e2 : Builtin.Slice.slicePlaces ((items.size : Int) - 1) (-1) (-1) = items.size := by
      unfold Builtin.Slice.slicePlaces
      have h1 : ¬ ((-1 : Int) > 0) := by omega
      have h3 : ((items.size : Int) - 1 - -1 - 1) / (- -1) = (items.size : Int) - 1 := by
        rw [show (- -1 : Int) = 1 by decide, Int.ediv_one]; omega
      simp only [h1, if_false, h3]
      split <;> omega
    rw [e1]
    show wpAny _ _ (pure ((items.size : Int) - 1, (-1 : Int), Builtin.Slice.slicePlaces ((items.size : Int) - 1) (-1) (-1))) _ _ s
    rw [e2]
    exact wpAny_pure q
  refine wpAny_bind (app ?_)
  have hno : ¬ ((((items.size : Int) - 1) == 0 && (-1 : Int) == 1 && items.size == items.size) = true) := by
    intro q
    rw [Bool.and_eq_true, Bool.and_eq_true] at q
    exact absurd q.1.2 (by decide)
  show wpAny _ _ (if (((items.size : Int) - 1) == 0 && (-1 : Int) == 1 && items.size == items.size) = true then _ else _) _ _ s
  rw [if_neg hno, pick_rev]
  first
    | exact wpAny_bind (m := Builtin.Tuple.tupleExact _) (wpAny_newObj_type (wpAny_pure ⟨_, rfl, wpAny_pure h⟩) htake)
    | exact wpAny_bind (m := Builtin.Tuple.tupleExact _) (wpAny_newObj_type (wpAny_bind (wpAny_pure (wpAny_pure ⟨_, rfl, wpAny_pure h⟩))) htake)
    | exact wpAny_bind (wpAny_bind (m := Builtin.Tuple.tupleExact _) (wpAny_newObj_type (wpAny_pure (wpAny_pure ⟨_, rfl, wpAny_pure h⟩)) htake))
    | exact wpAny_bind (wpAny_bind (m := Builtin.Tuple.tupleExact _) (wpAny_newObj_type (wpAny_pure ⟨_, rfl, wpAny_pure h⟩) htake))
end
/-- the name of a lambda in the def x -/
abbrev lamQ (x : Str) : Str := (x ++ ".<locals>.") ++ "<lambda>"
def dRev (A : DE) : DE := fun ρ S => (A ρ S).bind fun x S1 => match x.get S1 with
  | some (.tuple ps) => .ok (.pv (.tuple ps.reverse)) S1
  | some (.list ps) => .ok (.pv (.list ps.reverse)) S1
  | _ => .bad
section
variable {X : Cx} {W : WX} {pos : Pos} {A : DE}
def tRevA (K : PySem.W.Frag) (te : TE) : TE := fun σ H Q => te σ H fun x H1 => ∃ a xs, x = .ref a ∧ ((SqL K H1 a xs ∧ ∀ p, H1 p = none → Q (.ref p) (upd H1 p (.lst xs.reverse))) ∨ (SqT K H1 a xs ∧ ∀ p, H1 p = none → Q (.ref p) (upd H1 p (.tup xs.reverse))))
theorem pe_revA {e : Expr} {te : TE} {k : Nat} {p1 p2 p3 pos : Pos} (he : PE X e te) : PE X (.Subscript e (.Slice none none (some (.UnaryOp .USub (.Constant (.int 1) k p1) p2)) p3) pos) (tRevA X.K te) := by
  refine ⟨fun pins s σ H Q I h => ?_⟩
  refine Subscript_ (thn (he.run pins s σ H _ I h) fun v s1 ⟨x, H1, I1, r1, a, xs, ex, q⟩ => ?_)
  subst ex
  cases r1
  have hst : PO X (some (.UnaryOp .USub (.Constant (.int 1) k p1) p2)) (tPart (tUn (rU fun i => .int (-i)) (tC (.int 1)))) := po_some (pe_un un_neg pe_int)
  refine wpAny_Slice (thn (po_none.run pins s1 σ H1 (fun o H2 => o = none ∧ H2 = H1) I1 ⟨rfl, rfl⟩) fun vl s2 ⟨l, H2, I2, pl, el, e2⟩ => ?_)
  subst el e2
  refine thn (po_none.run pins s2 σ H2 (fun o H3 => o = none ∧ H3 = H2) I2 ⟨rfl, rfl⟩) fun vu s3 ⟨u, H3, I3, pu, eu, e3⟩ => ?_
  subst eu e3
  refine thn (hst.run pins s3 σ H3 (fun o H4 => o = some (-1) ∧ H4 = H3) I3 ⟨1, rfl, -1, rfl, rfl, rfl⟩) fun vs s4 ⟨o, H4, I4, ps, eo, e4⟩ => ?_
  subst eo e4
  have I5 : Inv X pins σ H4 { s4 with heap := s4.heap.push { cls := .type "slice", data := .fields #[vl, vu, vs] } } := I4.kept (t' := s4.toks) fun b ob q => Heap.get?_push_of_some _ q
  show wpAny (model X.prog X.w) X.A (subscriptTail e (.Slice none none (some (.UnaryOp .USub (.Constant (.int 1) k p1) p2)) p3) (.ref a) (.ref s4.heap.objs.size)) (EP X pins σ Q) X.xe { s4 with heap := s4.heap.push { cls := .type "slice", data := .fields #[vl, vu, vs] } }
  rcases q with ⟨hx, q⟩ | ⟨hx, q⟩
  · obtain ⟨its, r, ht, hz⟩ := I5.list hx
    have hlen := r.length
    refine tail_any (ops := [.ref a, .ref s4.heap.objs.size]) ht.isList.typeIs (PySem.slot_list_getitem.lookup) ?_ (by with_unfolding_all rfl)
    refine wpAny_getItem_list_slice ht.isList (Heap.IsSliceOf.new _ vl vu vs) pl pu ps (by decide) ?_ (by rw [List.size_toArray]; omega)
    rw [PySem.W.krv_pick]
    refine ⟨.ref _, _, I5.laid (t' := s4.toks) (o := .lst xs.reverse) (fun b ob q => Heap.get?_push_of_some _ q) (Nat.le_refl _) ?_, rfl, q _ (I5.hok.fresh (Nat.le_refl _))⟩
    exact ⟨by rw [List.length_reverse]; exact hz, _, 0, r.reverse, Heap.get?_push_size _ rfl⟩
  · obtain ⟨its, r, ht, hz⟩ := I5.tuple hx
    have hlen := r.length
    refine tail_any (ops := [.ref a, .ref s4.heap.objs.size]) ht.typeIs (PyProof.Rows.slot_tuple_getitem.lookup) ?_ (by with_unfolding_all rfl)
    refine getItem_tuple_rev ht (Heap.IsSliceOf.new _ vl vu vs) pl pu ps ?_ (by rw [List.size_toArray]; omega)
    refine ⟨.ref _, _, I5.laid (t' := s4.toks) (o := .tup xs.reverse) (fun b ob q => Heap.get?_push_of_some _ q) (Nat.le_refl _) ?_, rfl, q _ (I5.hok.fresh (Nat.le_refl _))⟩
    exact ⟨by rw [List.length_reverse]; exact hz, _, r.reverse, IsTup.new _ _⟩
theorem reps_rev {P : Program} {w : World} {K : PySem.W.Frag} {m : Mp} {H : Hp} : ∀ {ps : List PyData} {us : List V}, Reps P w K m H ps us → Reps P w K m H ps.reverse us.reverse
  | [], _, h => by cases h; rfl
  | p :: ps, _, ⟨u, r, e, h1, h2⟩ => by
    subst e
    rw [List.reverse_cons, List.reverse_cons]
    exact Reps.append (reps_rev h2) ⟨u, [], rfl, h1, rfl⟩
theorem r_rev {a : Expr} {k : Nat} {p1 p2 p3 : Pos} (ha : PEv X W a A) : PEv X W (.Subscript a (.Slice none none (some (.UnaryOp .USub (.Constant (.int 1) k p1) p2)) p3) pos) (dRev A) :=
  PE.imp (pe_revA ha) fun σ H Q q => tev_get (tev_top q) fun v H' ⟨m1, S1, x, s1, r1, h1⟩ => by
    split at h1
    · rename_i ps hp
      obtain ⟨a, us, rfl, hl, hr⟩ := peek r1 s1 hp
      exact ⟨a, us, rfl, .inr ⟨hl, fun p np => h1 m1 _ _ (Ext.upd np) (s1.upd np) ⟨p, _, rfl, SqT.of upd_same, reps_rev (Reps.go (Go.of s1.mok (Ext.upd np)) _ _ hr)⟩⟩⟩
    · rename_i ps hp
      obtain ⟨a, us, rfl, hl, hr⟩ := peek r1 s1 hp
      exact ⟨a, us, rfl, .inl ⟨SqL.of hl, fun p np => h1 m1 _ _ (Ext.upd np) (s1.upd np) ⟨p, _, rfl, upd_same, s1.notin np, reps_rev (Reps.go (Go.of s1.mok (Ext.upd np)) _ _ hr)⟩⟩⟩
    · exact h1.elim
/-- name = [..], the name a local -/
theorem s_setLc {i : Nat} {y : Str} {py : Pos} {elt tg iter : Expr} {ifs : List Expr} {scope : Scope} {own : List (Str × Nat)} {lpos : Pos} {Is : DI} {g : DG} {T : DT} {E : DE} (hc : X.calm = true) (hN : X.N.Nodup) (hi : PIv X W tg iter Is) (ok : BlkOk X.N X.env.scope scope own)
    (hg : ∀ (s : Shared) (H : Hp) (C : Addr) (cl : List (Str × Addr)) (fp : List Addr), PGv (X.blk s H scope (compEnvC scope cl C X.env) fp) (own.map (·.2)) tg g) (ht : ∀ (s : Shared) (H : Hp) (C : Addr) (cl : List (Str × Addr)) (fp : List Addr), PTsv (X.blk s H scope (compEnvC scope cl C X.env) fp) W0 ifs T)
    (he : ∀ (s : Shared) (H : Hp) (C : Addr) (cl : List (Str × Addr)) (fp : List Addr), PEv (X.blk s H scope (compEnvC scope cl C X.env) fp) W0 elt E) (hs : ∀ x, foldedSetIterable iter X.env x = pure x := by intro _; rfl)
    (hy : X.N[i]? = some y := by rfl) (hyl : X.env.scope.names.lookup y = some .local := by rfl) (hk : X.env.scope.kind = .function := by rfl) (hl : (py.line == lpos.line) = true := by rfl) (ha : (scope.names.any fun (n, k) => n == y && (k == .local || k == .cell)) = false := by decide +kernel) :
    PSv X W (.Assign [.Name y py] (.ListComp elt [⟨tg, iter, ifs, 0⟩] scope lpos) pos) (dSet i (dLc Is (own.map (·.2)) g T E)) :=
  PS.imp (ps_setLc hc hN hy hyl (sw_true hk hyl hl ha) hi ok hg ht he hs) fun D σ H h => lc_read (tev_get (tevS_top h) fun v H' ⟨m1, S1, x, ρ, R, r, h⟩ => h m1 H' _ (Ext.refl _ _) (R.set i r))
end
end Mi
set_option maxHeartbeats 4000000
namespace Mi
open PySem
/-- it ends well with Q, or raises as E allows -/
def Res.sat {α : Type} (r : Res α) (E : Str → Sto → Prop) (Q : α → Sto → Prop) : Prop := match r with
  | .ok a S => Q a S
  | .err c _ S => E c S
  | .bad => False
structure Ws where
  n : En → Sto → Prop
  r : Val → Sto → Prop
  b : En → Sto → Prop := fun _ _ => False
  c : En → Sto → Prop := fun _ _ => False
def SR.sat (r : SR) (E : Str → Sto → Prop) (D : Ws) : Prop := match r with
  | .next ρ S => D.n ρ S
  | .ret v S => D.r v S
  | .brk ρ S => D.b ρ S
  | .cnt ρ S => D.c ρ S
  | .err c _ _ S => E c S
  | .bad => False
section
variable {α β : Type} {E : Str → Sto → Prop} {D : Ws} {ρ : En} {S : Sto}
@[simp] theorem sat_ok {a : α} {Q : α → Sto → Prop} : (Res.ok a S).sat E Q = Q a S := rfl
@[simp] theorem sat_err {c f} {Q : α → Sto → Prop} : (Res.err c f S : Res α).sat E Q = E c S := rfl
@[simp] theorem sat_bind {r : Res α} {k : α → Sto → Res β} {Q : β → Sto → Prop} : (r.bind k).sat E Q = r.sat E fun a S => (k a S).sat E Q := by cases r <;> rfl
@[simp] theorem sat_s {r : Res α} {k : α → Sto → SR} : (r.s ρ k).sat E D = r.sat E fun a S => (k a S).sat E D := by cases r <;> rfl
@[simp] theorem sat_next : (SR.next ρ S).sat E D = D.n ρ S := rfl
@[simp] theorem sat_ret {v} : (SR.ret v S).sat E D = D.r v S := rfl
@[simp] theorem sat_brk : (SR.brk ρ S).sat E D = D.b ρ S := rfl
@[simp] theorem sat_cnt : (SR.cnt ρ S).sat E D = D.c ρ S := rfl
@[simp] theorem sat_serr {c f} : (SR.err c f ρ S).sat E D = E c S := rfl
@[simp] theorem sat_nx {r : SR} {k : En → Sto → SR} : (r.next? k).sat E D = r.sat E { D with n := fun ρ S => (k ρ S).sat E D } := by cases r <;> rfl
theorem Res.sat.imp {r : Res α} {Q Q' : α → Sto → Prop} {E' : Str → Sto → Prop} (h : r.sat E Q) (f : ∀ a S, Q a S → Q' a S) (g : ∀ c S, E c S → E' c S) : r.sat E' Q' := by
  cases r with
  | ok a S => exact f _ _ h
  | err c x S => exact g _ _ h
  | bad => exact h
theorem sat_if {c : Prop} [Decidable c] {a b : Res α} {Q : α → Sto → Prop} : (if c then a else b).sat E Q = if c then a.sat E Q else b.sat E Q := by split <;> rfl
theorem sat_ifS {c : Prop} [Decidable c] {a b : SR} : (if c then a else b).sat E D = if c then a.sat E D else b.sat E D := by split <;> rfl
end
def isiF (T : String) (x : Val) (S : Sto) : Res Val := match x with
  | .pv p => (match tyName p with | some n => .ok (.pv (.bool (isTy n T))) S | none => .bad)
  | _ => .bad
section
variable {ρ : En} {S : Sto} {A B C : DE} {T T' : DT} {As : DA} {Bs Cs : DS}
@[simp] theorem ap_C (p : PyData) : dC p ρ S = .ok (.pv p) S := rfl
@[simp] theorem ap_Nm (i : Nat) : dNm i ρ S = match ρ[i]? with | some (some x) => .ok x S | _ => .bad := rfl
@[simp] theorem ap_Fn (x : Str) : dFn x ρ S = .ok (.fn x) S := rfl
@[simp] theorem ap_d2 (op) : d2 op A B ρ S = (A ρ S).bind fun x S1 => (B ρ S1).bind fun y S2 => lift2 op x y S2 := rfl
@[simp] theorem ap_Nil : dNil ρ S = .ok [] S := rfl
@[simp] theorem ap_Cons : dCons A As ρ S = (A ρ S).bind fun x S1 => (As ρ S1).bind fun xs S2 => .ok (x :: xs) S2 := rfl
@[simp] theorem ap_Tup : dTup As ρ S = (As ρ S).bind fun xs S1 => match pvs xs with | some ps => if szOk ps.length then .ok (.pv (.tuple ps)) S1 else .bad | none => .bad := rfl
@[simp] theorem ap_Lst : dLst As ρ S = (As ρ S).bind fun xs S1 => match pvs xs with | some ps => if szOk ps.length then .ok (.pv (.list ps)) S1 else .bad | none => .bad := rfl
@[simp] theorem ap_New : dNew As ρ S = (As ρ S).bind fun xs S1 => match pvs xs with | some ps => if szOk ps.length then .ok (.loc S1.length) (S1 ++ [.lst ps]) else .bad | none => .bad := rfl
@[simp] theorem ap_Tst : dTst A ρ S = (A ρ S).bind blOf := rfl
@[simp] theorem ap_NotT : dNotT T ρ S = (T ρ S).bind fun b S1 => .ok (!b) S1 := rfl
@[simp] theorem ap_AndT : dAndT T T' ρ S = (T ρ S).bind fun b S1 => if b = true then T' ρ S1 else .ok false S1 := rfl
@[simp] theorem ap_OrT : dOrT T T' ρ S = (T ρ S).bind fun b S1 => if b = true then .ok true S1 else T' ρ S1 := rfl
@[simp] theorem ap_If : dIf T A B ρ S = (T ρ S).bind fun b S1 => if b = true then A ρ S1 else B ρ S1 := rfl
@[simp] theorem ap_Not : dNot A ρ S = (A ρ S).bind fun x S1 => (blOf x S1).bind fun b S2 => .ok (.pv (.bool !b)) S2 := rfl
@[simp] theorem ap_And : dAnd A B ρ S = (A ρ S).bind fun x S1 => (blOf x S1).bind fun b S2 => if b = true then B ρ S2 else .ok (.pv (.bool false)) S2 := rfl
@[simp] theorem ap_Or : dOr A B ρ S = (A ρ S).bind fun x S1 => (blOf x S1).bind fun b S2 => if b = true then .ok (.pv (.bool true)) S2 else B ρ S2 := rfl
@[simp] theorem ap_Ch (f g) : dCh f g A B C ρ S = (A ρ S).bind fun x S1 => (B ρ S1).bind fun y S2 => (lift2 f x y S2).bind fun z S3 => (blOf z S3).bind fun b S4 => if b = true then (C ρ S4).bind fun c S5 => lift2 g y c S5 else .ok (.pv (.bool false)) S4 := rfl
@[simp] theorem ap_Ix : dIx A B ρ S = (A ρ S).bind fun x S1 => (B ρ S1).bind fun y S2 => liftIx x y S2 := rfl
@[simp] theorem ap_Sl (L U : DO) : dSl A L U ρ S = (A ρ S).bind fun x S1 => (L ρ S1).bind fun lo S2 => (U ρ S2).bind fun hi S3 => liftSl x lo hi S3 := rfl
@[simp] theorem ap_No : dNo ρ S = .ok none S := rfl
@[simp] theorem ap_Pt : dPt A ρ S = (A ρ S).bind intOf := rfl
@[simp] theorem ap_Rev : dRev A ρ S = (A ρ S).bind fun x S1 => match x.get S1 with | some (.tuple ps) => .ok (.pv (.tuple ps.reverse)) S1 | some (.list ps) => .ok (.pv (.list ps.reverse)) S1 | _ => .bad := rfl
@[simp] theorem ap_Neg : dNeg A ρ S = (A ρ S).bind fun x S1 => match x with | .pv (.int i) => .ok (.pv (.int (-i))) S1 | _ => .bad := rfl
@[simp] theorem ap_Call (F : Fn) : dCall F As ρ S = (As ρ S).bind F := rfl
@[simp] theorem ap_Isi (T : String) : dIsi T A ρ S = (A ρ S).bind (isiF T) := rfl
@[simp] theorem ap_App : dApp A B ρ S = (A ρ S).bind fun x S1 => if lstAt x S1 then (B ρ S1).bind fun y S2 => fApp [x, y] S2 else .bad := rfl
@[simp] theorem ap_Pass : dPass ρ S = .next ρ S := rfl
@[simp] theorem ap_Seq : dSeq Bs Cs ρ S = (Bs ρ S).next? Cs := rfl
@[simp] theorem ap_Set (i : Nat) : dSet i A ρ S = (A ρ S).s ρ fun x S1 => .next (ρ.set i (some x)) S1 := rfl
@[simp] theorem ap_Ret : dRet A ρ S = (A ρ S).s ρ fun x S1 => .ret x S1 := rfl
@[simp] theorem ap_Do : dDo A ρ S = (A ρ S).s ρ fun _ S1 => .next ρ S1 := rfl
@[simp] theorem ap_IfS : dIfS T Bs Cs ρ S = (T ρ S).s ρ fun b S1 => if b = true then Bs ρ S1 else Cs ρ S1 := rfl
@[simp] theorem ap_gN (i : Nat) (x : Val) : gN i x ρ = some (ρ.set i (some x)) := rfl
@[simp] theorem ap_As (g : DG) : dAs g A ρ S = (A ρ S).s ρ fun x S1 => match g x ρ with | some ρ1 => .next ρ1 S1 | none => .bad := rfl
@[simp] theorem ap_Par (i j : Nat) : dPar i j As ρ S = (As ρ S).s ρ fun xs S1 => match xs with | [x, y] => .next ((ρ.set i (some x)).set j (some y)) S1 | _ => .bad := rfl
@[simp] theorem ap_Par3 (i j l : Nat) : dPar3 i j l As ρ S = (As ρ S).s ρ fun xs S1 => match xs with | [x, y, z] => .next (((ρ.set i (some x)).set j (some y)).set l (some z)) S1 | _ => .bad := rfl
@[simp] theorem ap_Sub (O I : DE) : dSub O I A ρ S = (A ρ S).s ρ fun x S1 => (O ρ S1).s ρ fun o S2 => (I ρ S2).s ρ fun i S3 => match fSet o i x S3 with | some S4 => .next ρ S4 | none => .bad := rfl
@[simp] theorem ap_Raise (c : Str) : dRaise c ρ S = .err c none ρ S := rfl
@[simp] theorem ap_Fz (i : Nat) : dFz i ρ S = match ρ[i]? with
  | some (some (.loc l)) => (match S[l]? with
    | some (.lst xs) => .ok (.pv (.list xs)) (S.set l .dead)
    | some (.dct kvs) => .ok (.pv (.dict kvs)) (S.set l .dead)
    | _ => .bad)
  | some (some (.pv p)) => .ok (.pv p) S
  | _ => .bad := rfl
@[simp] theorem bl_pv (b : Bool) : blOf (.pv (.bool b)) S = .ok b S := rfl
@[simp] theorem io_pv (i : Int) : intOf (.pv (.int i)) S = .ok (some i) S := rfl
@[simp] theorem pvs_nil : pvs [] = some [] := rfl
@[simp] theorem pvs_cons (p : PyData) (xs : List Val) : pvs (.pv p :: xs) = (pvs xs).map fun ps => p :: ps := rfl
theorem l2_pv (op p q) : lift2 op (.pv p) (.pv q) S = match op p q with | some z => .ok (.pv z) S | none => .bad := rfl
theorem l2_eq {E : Str → Sto → Prop} {Q : Val → Sto → Prop} {op p q z} (h : op p q = some z) (hq : Q (.pv z) S) : (lift2 op (.pv p) (.pv q) S).sat E Q := by rw [l2_pv, h]; exact hq
theorem ix_pv (p q) : liftIx (.pv p) (.pv q) S = match ixOf p q with | some z => .ok (.pv z) S | none => .bad := rfl
theorem sl_pv (p lo hi) : liftSl (.pv p) lo hi S = match slOf lo hi p with | some z => .ok (.pv z) S | none => .bad := rfl
theorem b1_pv (f p) : b1 f [.pv p] S = match f p with | some z => .ok (.pv z) S | none => .bad := rfl
theorem gT_ap (gs : List DG) (ps : List PyData) : gT gs (.pv (.tuple ps)) ρ = gT.go gs ps ρ := rfl
theorem go_nil : gT.go [] [] ρ = some ρ := rfl
theorem go_cons (g : DG) (gs : List DG) (p : PyData) (ps : List PyData) : gT.go (g :: gs) (p :: ps) ρ = (g (.pv p) ρ).bind fun ρ1 => gT.go gs ps ρ1 := rfl
end
/-- a def -/
theorem sat_fun {k n : Nat} {B : DS} {xs : List Val} {S : Sto} {E : Str → Sto → Prop} {Q : Val → Sto → Prop} (hl : xs.length = k)
    (h : (B (xs.map some ++ List.replicate (n - k) none) S).sat (fun c S1 => E c (S1.take S.length)) { n := fun ρ S1 => (leave S.length (.pv .none) S1).sat E Q, r := fun v S1 => (leave S.length v S1).sat E Q }) : (dFun k n B xs S).sat E Q := by
  unfold dFun
  rw [if_pos hl]
  revert h
  cases B (xs.map some ++ List.replicate (n - k) none) S <;> exact fun h => h
@[simp] theorem leave_pv (n : Nat) (p : PyData) (S : Sto) : leave n (.pv p) S = .ok (.pv p) (S.take n) := rfl
/-- a for -/
theorem sat_for {I : Nat → En → Sto → Prop} {g : DG} {B : DS} {E : Str → Sto → Prop} {D : Ws} {xs : List Val} (hs : ∀ i x ρ S, xs[i]? = some x → I i ρ S → ∃ ρ1, g x ρ = some ρ1 ∧ (B ρ1 S).sat E { n := I (i + 1), c := I (i + 1), b := D.n, r := D.r })
    (hd : ∀ ρ S, I xs.length ρ S → D.n ρ S) : ∀ (j : Nat) (ρ : En) (S : Sto), j ≤ xs.length → I j ρ S → (loopF g B (xs.drop j) ρ S).sat E D := by
  have key : ∀ (n j : Nat) (ρ : En) (S : Sto), xs.length - j = n → j ≤ xs.length → I j ρ S → (loopF g B (xs.drop j) ρ S).sat E D := by
    intro n
    induction n with
    | zero =>
      intro j ρ S e hj h
      have : j = xs.length := by omega
      subst this
      rw [List.drop_length]
      exact hd _ _ h
    | succ n ih =>
      intro j ρ S e hj h
      have hlt : j < xs.length := by omega
      rw [List.drop_eq_getElem_cons hlt]
      obtain ⟨ρ1, hg, hb⟩ := hs j _ ρ S (List.getElem?_eq_getElem hlt) h
      unfold loopF
      rw [hg]
      revert hb
      simp only []
      cases B ρ1 S with
      | next ρ2 S2 => exact fun hb => ih (j + 1) ρ2 S2 (by omega) (by omega) hb
      | cnt ρ2 S2 => exact fun hb => ih (j + 1) ρ2 S2 (by omega) (by omega) hb
      | brk ρ2 S2 => exact fun hb => hb
      | ret v S2 => exact fun hb => hb
      | err c f ρ2 S2 => exact fun hb => hb
      | bad => exact fun hb => hb
  exact fun j ρ S => key _ j ρ S rfl
@[simp] theorem ap_For {I : DI} {g : DG} {B : DS} {ρ : En} {S : Sto} : dFor I g B ρ S = (I ρ S).s ρ fun xs S1 => loopF g B xs ρ S1 := rfl
@[simp] theorem ap_Items {A : DE} {ρ : En} {S : Sto} : dItems A ρ S = (A ρ S).bind fun x S1 => match itemsOf x with | some xs => .ok xs S1 | none => .bad := rfl
@[simp] theorem ap_Rng1 {A : DE} {ρ : En} {S : Sto} : dRng1 A ρ S = (A ρ S).bind fun x S1 => match x with | .pv (.int j) => rngOf 0 j S1 | _ => .bad := by
  unfold dRng1
  cases A ρ S <;> rfl
@[simp] theorem ap_Lc {I : DI} {vs : List Nat} {g : DG} {T : DT} {A : DE} {ρ : En} {S : Sto} : dLc I vs g T A ρ S = (I ρ S).bind fun xs S1 => loopC g T A (wipeE ρ vs) xs [] S1 := rfl
@[simp] theorem ap_Yes {ρ : En} {S : Sto} : dYes ρ S = .ok true S := rfl
/-- a comprehension -/
theorem sat_lc {I : Nat → List PyData → Sto → Prop} {g : DG} {T : DT} {A : DE} {E : Str → Sto → Prop} {Q : Val → Sto → Prop} {xs : List Val} {ρ : En}
    (hs : ∀ i x acc S, xs[i]? = some x → I i acc S → ∃ ρ1, g x ρ = some ρ1 ∧ (T ρ1 S).sat (fun _ _ => False) fun b S1 => if b = true then (A ρ1 S1).sat (fun _ _ => False) fun v S2 => ∃ p, v = .pv p ∧ acc.length < 16777216 ∧ I (i + 1) (acc ++ [p]) S2 else I (i + 1) acc S1)
    (hd : ∀ acc S, I xs.length acc S → Q (.pv (.list acc)) S) : ∀ (j : Nat) (acc : List PyData) (S : Sto), j ≤ xs.length → I j acc S → (loopC g T A ρ (xs.drop j) acc S).sat E Q := by
  have key : ∀ (n j : Nat) (acc : List PyData) (S : Sto), xs.length - j = n → j ≤ xs.length → I j acc S → (loopC g T A ρ (xs.drop j) acc S).sat E Q := by
    intro n
    induction n with
    | zero =>
      intro j acc S e hj h
      have : j = xs.length := by omega
      subst this
      rw [List.drop_length]
      exact hd _ _ h
    | succ n ih =>
      intro j acc S e hj h
      have hlt : j < xs.length := by omega
      rw [List.drop_eq_getElem_cons hlt]
      obtain ⟨ρ1, hg, hb⟩ := hs j _ acc S (List.getElem?_eq_getElem hlt) h
      unfold loopC
      rw [hg]
      revert hb
      simp only []
      cases T ρ1 S with
      | err c f S => exact fun z => z.elim
      | bad => exact fun z => z.elim
      | ok b S1 =>
        cases b with
        | false => exact fun hb => ih (j + 1) acc S1 (by omega) (by omega) hb
        | true =>
          simp only [sat_ok, ite_true]
          cases A ρ1 S1 with
          | err c f S => exact fun z => z.elim
          | bad => exact fun z => z.elim
          | ok v S2 =>
            rintro ⟨p, rfl, hz, hi⟩
            have hz' : szOk (acc.length + 1) = true := decide_eq_true hz
            simp only [hz', ite_true]
            exact ih (j + 1) _ S2 (by omega) (by omega) hi
  exact fun j acc S => key _ j acc S rfl
end Mi
set_option maxHeartbeats 4000000
namespace Mi
open PySem PySem.Spec PyProof.Rows L2 L2H LamX
def excdB (K : PySem.W.Frag) (D : Addr) : Bool :=
  (PySem.W.clsIn K D).isSome && (He.eqO (PySem.W.findIn K (.ref D) "__getattribute__") (some (some (.builtin "BaseException.__getattribute__"))) && (He.eqO (PySem.W.findIn K (.ref D) "__getattr__") (some none) && (decide (PySem.W.subIn K (.ref D) (.type "BaseException") = some true) &&
    (He.eqO (PySem.W.findIn K (.ref D) "__class__") (some (some (.builtin "object.__class__"))) && (He.eqO (PySem.W.specialIn K (.builtin "object.__class__") "__get__") (some (some (.builtin "getset_descriptor.__get__"))) && (decide (PySem.W.takesIn K (.builtin "object.__class__") = some true) &&
      decide (PySem.W.mroIn K D (.type "object") = some true)))))))
theorem excd_of {K : PySem.W.Frag} {D : Addr} (h : excdB K D = true) : ExcD K D := by
  unfold excdB at h
  obtain ⟨h1, h⟩ := He.ba h
  obtain ⟨h2, h⟩ := He.ba h
  obtain ⟨h3, h⟩ := He.ba h
  obtain ⟨h4, h⟩ := He.ba h
  obtain ⟨h5, h⟩ := He.ba h
  obtain ⟨h6, h⟩ := He.ba h
  obtain ⟨h7, h8⟩ := He.ba h
  exact ⟨h1, He.eqO_ok h2, He.eqO_ok h3, of_decide_eq_true h4, He.eqO_ok h5, He.eqO_ok h6, of_decide_eq_true h7, of_decide_eq_true h8⟩
/-- the twelve classes, in the order of _law_names -/
def clNames : List Str := [("InvalidStage" : Str), ("InvalidChain" : Str), ("InvalidCourse" : Str), ("InvalidBeat" : Str), ("InvalidPattern" : Str), ("InvalidNumber" : Str), ("InvalidSeen" : Str), ("Unlike" : Str), ("NothingToUndo" : Str), ("InvalidText" : Str), ("TooMany" : Str), ("Wrong" : Str)]
/-- the facts of one class -/
def oneB (K : PySem.W.Frag) (c : Str) : Bool := excdB K (He.ga K c) && (decide (PySem.W.exmOne K (.ref (He.ga K c)) (.ref (He.ga K "StopError")) = some true) && (decide (PySem.W.kitOne K (.ref (He.ga K c)) (.type "ValueError") = some true) &&
  clNames.all fun x => decide (PySem.W.kitOne K (.ref (He.ga K c)) (.ref (He.ga K x)) = some (decide (c = x)))))
def exB (cs : List Str) (K : PySem.W.Frag) : Bool := cs.all (oneB K)
theorem one_of {K : PySem.W.Frag} {c : Str} (h : oneB K c = true) : ExcD K (He.ga K c) ∧ PySem.W.exmOne K (.ref (He.ga K c)) (.ref (He.ga K "StopError")) = some true ∧ PySem.W.kitOne K (.ref (He.ga K c)) (.type "ValueError") = some true ∧ ∀ x ∈ clNames, PySem.W.kitOne K (.ref (He.ga K c)) (.ref (He.ga K x)) = some (decide (c = x)) := by
  unfold oneB at h
  obtain ⟨h1, h⟩ := He.ba h
  obtain ⟨h2, h⟩ := He.ba h
  obtain ⟨h3, h4⟩ := He.ba h
  exact ⟨excd_of h1, of_decide_eq_true h2, of_decide_eq_true h3, fun x hx => of_decide_eq_true (List.all_eq_true.mp h4 x hx)⟩
end Mi
set_option maxHeartbeats 4000000
namespace Mi
open PySem PySem.Spec PyProof.Rows L2 L2H LamX
theorem code_of {K : PySem.W.Frag} {x qual : Str} {a : Arguments} {b : List Stmt} {s : Scope} {fd : FuncData} (F : FunD K x qual a b s [] [] (He.ga K x) fd) : fd.code = .ref (tCd K x) := by
  obtain ⟨oc, od, dV, kV, doc, pm, an, cdv, ct, osl, e, lk, hcd, _, _⟩ := F.ex
  obtain ⟨c, ec⟩ := He.codeIn_ref hcd
  have e1 : fd.code = .ref c := by rw [e, ← ec] <;> rfl
  have e2 := He.codeOf_eq (K := K) (p := (x, none)) lk e1
  show fd.code = .ref (He.codeOf K (x, none))
  rw [e2, e1]
/-- the tables of the defs tf, at the start -/
def tabS (K : PySem.W.Frag) (tf : List Str) : Sto := tf.map fun x => .tab (tP K x) (lamQ x)
def tabM (K : PySem.W.Frag) (tf : List Str) : Mp := { st := tf.map fun _ => none, av := [], tb := tf.map fun x => (tP K x, lamQ x) }
def tfB (tf : List Str) (K : PySem.W.Frag) : Bool := tf.all fun x => tf.all fun y => !decide (tP K x = tP K y) || decide (x = y)
theorem repS0 {P : Program} {w : World} {K : PySem.W.Frag} {tf : List Str} {H : Hp} (hH : ∀ x ∈ tf, H (tP K x) = some (.tbl #[])) (hb : tfB tf K = true) : RepS P w K (tabM K tf) H (tabS K tf) where
  len := by simp [tabM, tabS]
  av := fun a h => by simp [tabM] at h
  tabs := fun p hp => by
    obtain ⟨x, hx, rfl⟩ := List.mem_map.mp hp
    exact ⟨#[], hH x hx, by first | exact trivial | simp [TriplesOk], fun pos cv hc => by first | (cases hc; done) | (simp [codeAmong] at hc)⟩
  nd := fun i j a hi => by
    simp only [tabM, List.getElem?_map, Option.map_eq_some_iff] at hi
    obtain ⟨_, _, z⟩ := hi
    cases z
  ob := fun l o e => by
    simp only [tabS, List.getElem?_map, Option.map_eq_some_iff] at e
    obtain ⟨x, hx, rfl⟩ := e
    refine .inl ⟨⟨List.mem_map.mpr ⟨x, List.mem_of_getElem? hx, rfl⟩, fun p hp hq => ?_⟩, ?_⟩
    · obtain ⟨y, hy, rfl⟩ := List.mem_map.mp hp
      have h1 := List.all_eq_true.mp (List.all_eq_true.mp hb y hy) x (List.mem_of_getElem? hx)
      simp only [Bool.or_eq_true, Bool.not_eq_true', decide_eq_false_iff_not, decide_eq_true_eq] at h1
      rcases h1 with z | z
      · exact absurd hq z
      · rw [z]
    · simp [tabM, hx]
theorem tabS_any {K : PySem.W.Frag} {tf : List Str} {x : Str} (h : x ∈ tf) : (tabS K tf).any (isTab (tP K x) (lamQ x)) = true := List.any_eq_true.mpr ⟨.tab (tP K x) (lamQ x), List.mem_map.mpr ⟨x, h, rfl⟩, by simp [isTab]⟩
theorem reps_ints {P : Program} {w : World} {K : PySem.W.Frag} {m : Mp} {H : Hp} : ∀ ns : List Int, Reps P w K m H (ns.map .int) (ns.map V.int)
  | [] => rfl
  | n :: ns => ⟨_, _, rfl, rfl, reps_ints ns⟩
/-- a law's end -/
theorem law_at {l : PySem.W.OpenLaw} {w : World} {K : PySem.W.Frag} {mg : Str → Option Value} {f : Addr} {h : Heap} {fa : List He.Fa} {fn : List He.DefD} {tf : List Str} {ex : PySem.W.Frag → Bool} {k : Nat} {F : Fn} {fd : FuncData} (KX : K.In h)
    (c : He.SaysX fa fn [] (tf.map fun x => (x, none)) ex w h K) (htf : tfB tf K = true) (hmg : mg "law" = some (.ref f)) (hgl : mg "law" = some (.ref (He.ga K "law"))) (hb : ∀ (s : Shared) (u : Value), BindsTo s fd ⟨[u], []⟩ [("script", u)])
    (ok : ∀ base, K.In base → base.Ns mainGlobals mg → (∀ x ∈ tf, TabB base mg (tCd K x) (tP K x)) → FnOk l.prog w K mg base (L2N.CX l.prog w) k (He.ga K "law") fd ["script"] (spF ⟨l.prog, w, K, mg⟩ 1 F))
    (law : ∀ (ns : List Int) (S : Sto), ns.length ≤ 63 → (∀ z ∈ ns, Builtin.Int.intBits z ≤ 1048576) → (∀ x ∈ tf, S.any (isTab (tP K x) (lamQ x)) = true) → (F [.ro (ns.map .int)] S).sat (fun _ _ => False) fun v _ => v = .pv (.bool true)) :
    LawAtS l w K (L2N.CX l.prog w) k 63 "script" mg f h := by
  rw [hgl] at hmg
  cases hmg
  have mem : ∀ {p : Addr × Addr}, p ∈ tf.map (fun x => (tCd K x, tP K x)) → ∃ x ∈ tf, p = (tCd K x, tP K x) := fun hp => by
    obtain ⟨x, hx, rfl⟩ := List.mem_map.mp hp
    exact ⟨x, hx, rfl⟩
  have mtf : ∀ {x : Str}, x ∈ tf → ((x, none) : He.Defn) ∈ tf.map (fun x => ((x, none) : He.Defn)) := fun hx => List.mem_map.mpr ⟨_, hx, rfl⟩
  refine ⟨fd, tf.map fun x => (tCd K x, tP K x), spF ⟨l.prog, w, K, mg⟩ 1 F, fun p hp => ?_, fun p hp => ?_, fun p hp => ?_, hb, fun H a ns hl hbits hH hS => ?_, fun base KB G hT => ?_⟩
  · obtain ⟨x, hx, rfl⟩ := mem hp
    exact c.empty _ (mtf hx)
  · obtain ⟨x, hx, rfl⟩ := mem hp
    exact c.out _ (mtf hx)
  · obtain ⟨x, hx, rfl⟩ := mem hp
    exact PySem.W.codeHd_of_K KX (c.hd _ (mtf hx))
  · have hH' : ∀ x ∈ tf, H (tP K x) = some (.tbl #[]) := fun x hx => hH _ (List.mem_map.mpr ⟨x, hx, rfl⟩)
    refine ⟨rfl, tabM K tf, tabS K tf, [.ro (ns.map .int)], ⟨_, _, rfl, ⟨a, ns.map V.int, rfl, ?_, reps_ints ns⟩, rfl⟩, repS0 hH' htf, ?_⟩
    · rcases hS with z | z
      · refine .inl ⟨z, fun y => ?_⟩
        rcases y with y | y
        · simp [tabM] at y
        · simp [tabM] at y
      · exact .inr fun H => .inr z
    · have q := law ns (tabS K tf) hl hbits fun x hx => tabS_any hx
      revert q
      cases F [.ro (ns.map .int)] (tabS K tf) with
      | ok v S =>
        intro q m' H' u e s r
        have q : v = .pv (.bool true) := q
        subst q
        exact r
      | err c f S => exact fun q => q.elim
      | bad => exact fun q => q.elim
  · exact ok base KB G fun x hx => hT _ (List.mem_map.mpr ⟨x, hx, rfl⟩)
/-- a law's def, by its body -/
theorem law_ok {P : Program} {w : World} {K : PySem.W.Frag} {mg : Str → Option Value} {base : Heap} {x : Str} {st : Stmt} {N ps : List Str} {k : Nat} {B : DS} {fd : FuncData} (F : FunD K x x (defArgs st) (defBody st) (defScope st) [] [] (He.ga K x) fd) (S : FnScope N ps (defScope st))
    (hbody : ∀ (A : Around) (outer : List Env) (s : Shared) (H : Hp) (E : XK), Room k (A.deeper (envOfC x (defScope st) s.heap.objs.size (He.ga K x) fd.code)) → L2N.Takes (cxOf (L2N.CX P w) P w K mg base N x (defScope st) (He.ga K x) fd.code A outer s H E) (fun cls d _ H => E cls d H) →
      PSs (cxOf (L2N.CX P w) P w K mg base N x (defScope st) (He.ga K x) fd.code A outer s H E) (defBody st) (tevS ⟨P, w, K, mg⟩ (fun cls d _ H => E cls d H) B)) :
    FnOk P w K mg base (L2N.CX P w) (k + 1) (He.ga K x) fd ps (spF ⟨P, w, K, mg⟩ ps.length (dFun ps.length N.length B)) := fnok (funD_fun F) S fun A outer s H E hr tk => hbody A outer s H E hr tk
end Mi
set_option maxHeartbeats 4000000
namespace Mi
open PySem PySem.Spec PyProof.Rows L2
section
open AutoSeq1 (wpAny_loadPart')
theorem meets_enumerate_newT (l : Addr) (items : Array Value) (n : Nat) (dct : Option Addr) (sl : Array (Option Value)) :
    Meets (Builtin.«enumerate.__new__» ⟨[.type "enumerate", .ref l], []⟩) (fun _ R s => s.heap.get? l = some { cls := .type "tuple", dict := dct, data := .seq items n, slots := sl } ∧
      R (.ok (.ret (.ref (s.heap.push { cls := .type "tuple_iterator", data := .fields #[.ref l, .int 0 0] }).objs.size)))
        { s with heap := (s.heap.push { cls := .type "tuple_iterator", data := .fields #[.ref l, .int 0 0] }).push { cls := .type "enumerate", data := .fields #[.none, .bool false, .ref s.heap.objs.size, rawInt 0, .none, .none] } }) :=
  .of_wp fun prog w A R s h => by
    obtain ⟨hp, g, d, tk, os⟩ := s; obtain ⟨hl, h⟩ := h
    have hsub := sub_enumerate
    have hL : Heap.IsTuple (Shared.heap ⟨hp, g, d, tk, os⟩) l items := ⟨_, hl, rfl, n, rfl⟩
    wp_walk using wpAny_loadPart' hl
    refine wpAny_stack_any fun st => wpAny_pure ?_
    split
    · rename_i c _ _ _ _ _
      cases (c == Value.type "enumerate")
      · wp_walk using wpAny_loadPart' hl, wpAny_pyIter_tuple hL
        exact ⟨_, rfl, h⟩
      · wp_walk using wpAny_loadPart' hl, wpAny_pyIter_tuple hL
        exact ⟨_, rfl, h⟩
    · wp_walk using wpAny_loadPart' hl, wpAny_pyIter_tuple hL
      exact ⟨_, rfl, h⟩
end
section
variable {prog : Program} {w : World} {A : Around} {E : Value → Shared → Prop} {s : Shared}
theorem call_enumerate_tup {l : Addr} {items : Array Value} {Q : Value → Shared → Prop} (hL : s.heap.IsTuple l items)
    (h : ∀ h', IsEnum h' (s.heap.objs.size + 1) s.heap.objs.size 0 .none → h'.IsTupleIter s.heap.objs.size l 0 → h'.objs.size = s.heap.objs.size + 2 →
      (∀ b o, s.heap.get? b = some o → h'.get? b = some o) → Q (.ref (s.heap.objs.size + 1)) { s with heap := h' }) :
    wpAny (model prog w) A (call (.type "enumerate") [.ref l]) Q E s := by
  obtain ⟨⟨c, dct, dt, sl⟩, hl, hc, n, hd⟩ := hL
  replace hc : c = .type "tuple" := hc
  replace hd : dt = .seq items n := hd
  subst hc hd
  refine callType_new F.called_enumerate (by decide) (F.typeCall_enumerate_1 _) (F.newCall_enumerate_1 _) (fun obj => F.args_object_init_2 obj _) F.entry_enumerate_new
    (meets_enumerate_newT l items n dct sl) ⟨hl, ?_⟩
  have hz : (s.heap.push { cls := .type "tuple_iterator", data := .fields #[.ref l, .int 0 0] }).objs.size = s.heap.objs.size + 1 := Heap.size_push ..
  show _ ∧ _
  rw [hz]
  have he : IsEnum ((s.heap.push { cls := .type "tuple_iterator", data := .fields #[.ref l, .int 0 0] }).push
      { cls := .type "enumerate", data := .fields #[.none, .bool false, .ref s.heap.objs.size, rawInt 0, .none, .none] }) (s.heap.objs.size + 1) s.heap.objs.size 0 .none := by
    have := Heap.get?_push_size (s.heap.push { cls := .type "tuple_iterator", data := .fields #[.ref l, .int 0 0] })
      (o := { cls := .type "enumerate", data := .fields #[.none, .bool false, .ref s.heap.objs.size, rawInt 0, .none, .none] }) rfl
    rw [hz] at this; exact this
  refine ⟨⟨_, he, rfl⟩, h _ he ⟨_, Heap.get?_push_of_some _ (Heap.get?_push_size _ rfl), rfl, rfl⟩ (by rw [Heap.size_push, hz]) fun b o x => Heap.get?_push_of_some _ (Heap.get?_push_of_some _ x)⟩
end
/-- the tuple at a, each item in a new pair -/
def IteT (K : PySem.W.Frag) (a : Addr) : It :=
  ⟨fun i H => ∃ (xs : List V) (x : V), SqT K H a xs ∧ xs[i]? = some x, fun i H v H' => ∃ T x, v = .ref T ∧ H T = none ∧ H' = upd H T (.tup [.int (i : Nat), x]) ∧ ∀ xs, SqT K H a xs → xs[i]? = some x, fun i H => ∃ xs : List V, SqT K H a xs ∧ xs.length ≤ i⟩
theorem turn_enumT {P : Program} {w : World} {K : PySem.W.Frag} {elts : List Expr} {kk : Nat} {tpos : Pos} (a e it : Addr) (hea : a ≠ e) (hia : a ≠ it) :
    Turn P w K (.Tuple elts kk tpos) (IteT K a) [e, it] e (fun i h => (∃ old, IsEnum h e it ((i : Nat) : Int) old) ∧ h.IsTupleIter it a i ∧ e ≠ it) where
  mem := by simp
  obj := fun i h st b hb => by
    obtain ⟨⟨old, he⟩, ⟨o, ho, hc, hd⟩, _⟩ := st
    have e' : b = e ∨ b = it := by simpa using hb
    rcases e' with z | z
    · rw [z]; exact ⟨_, he, fun v q => nomatch q⟩
    · rw [z]; exact ⟨o, ho, fun v q => by rw [hd] at q; cases q⟩
  keep := fun i h h' st k => let ⟨⟨old, he⟩, hi, hne⟩ := st; ⟨⟨old, k e (by simp) _ he⟩, hi.at fun o q => k it (by simp) o q, hne⟩
  item := by
    intro X hP hw hK hc i pins s σ H E I hf st hg
    subst hP hw hK
    obtain ⟨⟨old, he⟩, hit, hne⟩ := st
    obtain ⟨xs, x, hq, hx⟩ := hg
    obtain ⟨its, rv, p, hz⟩ := I.tuple hq
    obtain ⟨u, hu, ru⟩ := rv.get hx
    have hel : e < s.heap.objs.size := Heap.lt_size he
    have hil : it < s.heap.objs.size := by obtain ⟨_, q, _⟩ := hit; exact Heap.lt_size q
    have D : Draws X.prog X.w X.A.in1 it [it, a] its.toArray.size (fun i v => its.toArray[i]? = some v) (fun i h => h.IsTupleIter it a i ∧ h.IsTuple a its.toArray) := Draws.tuple (show X.A.in1.handled = none from I.ok.hd hc) it a hia its.toArray
    have hlt : i < its.toArray.size := by
      have := (List.getElem?_eq_some_iff.mp hu).1
      simpa using this
    refine wpAny_pyNext_enum_itemD D he ⟨hit, p⟩ hlt hne (by simp [hne, Ne.symm hea]) fun u' h' tk hu' ho hit' hT hsz hk => ?_
    have hu' : its.toArray[i]? = some u' := hu'
    have eu : u' = u := by
      have : its[i]? = some u' := by simpa using hu'
      rw [hu] at this; cases this; rfl
    subst eu
    refine ⟨_, rfl, wpAny_letOwnedTupleGo_enum (s := { s with heap := h', toks := tk + 1 }) ho fun h'' he' sb => ?_⟩
    have hT2 : h''.get? s.heap.objs.size = some { cls := .type "tuple", data := .seq #[.int i tk, u'] } := (sb.2 _ (Nat.ne_of_gt hel)).trans hT
    have new : ObjOk X.prog X.w (upd H s.heap.objs.size (.tup [.int (i : Nat), x])) h'' s.heap.objs.size (.tup [.int (i : Nat), x]) :=
      ⟨by show 2 ≤ sizeLine; decide, [.int i tk, u'], .cons ⟨_, rfl⟩ (.cons ru .nil), ⟨_, hT2, rfl, _, rfl⟩⟩
    have I1 : Inv X pins σ (upd H s.heap.objs.size (.tup [.int (i : Nat), x])) { s with heap := h'', toks := tk + 1 } :=
      I.turnedNew (ch := [e, it]) (fun b ob hb q => (sb.2 b (fun z => hb (by simp [z]))).trans (hk b ob (fun z => hb (by simp [z])) (fun z => hb (by simp [z])) q)) hf (Nat.le_refl _) new
    refine ⟨.ref s.heap.objs.size, _, I1, rfl, ⟨_, x, rfl, I.hok.fresh (Nat.le_refl _), rfl, fun ys hy => by rw [I.tuple_inj hy hq]; exact hx⟩, ⟨⟨u', ?_⟩, hit'.1.at fun o q => (sb.2 it (Ne.symm hne)).trans q, hne⟩, fun b hb => ?_⟩
    · have e1 : ((i + 1 : Nat) : Int) = (i : Int) + 1 := by omega
      rw [e1]; exact he'
    · have hb' : b < s.heap.objs.size := by
        have e' : b = e ∨ b = it := by simpa using hb
        rcases e' with z | z
        · rw [z]; exact hel
        · rw [z]; exact hil
      rw [upd_ne (Nat.ne_of_lt hb')]
      exact (hf b hb).1
  done := by
    intro X hP hw hK hc i pins s σ H E I hf st hg
    subst hP hw hK
    obtain ⟨⟨old, he⟩, hit, hne⟩ := st
    obtain ⟨xs, hq, hx⟩ := hg
    obtain ⟨its, rv, p, hz⟩ := I.tuple hq
    obtain ⟨f0, f1, f2, f3, f4, f5⟩ := hf it (by simp)
    have hl := rv.length
    have D : Draws X.prog X.w X.A.in1 it [it, a] i (fun _ _ => True) (fun j h => j = i ∧ h.IsTupleIter it a i ∧ h.IsTuple a its.toArray) :=
      { live := fun j h st => let ⟨o, ho, _⟩ := st.2.1; ⟨o, ho⟩
        frame := fun j h h' st hk => ⟨st.1, st.2.1.at fun o e => hk it (by simp) o e, st.2.2.at fun o e => hk a (by simp) o e⟩
        item := fun j s Q E hj st hQ => absurd st.1 (Nat.ne_of_lt hj)
        done := fun s Q E st hE => wpAny_nextOf_tuple_end (show X.A.in1.handled = none from I.ok.hd hc) st.2.1 st.2.2 (by simp; omega) hE }
    exact wpAny_pyNext_enum_endD D he ⟨rfl, hit, p⟩ fun h' eb => ⟨rfl, I.turned (t' := s.toks) (fun b o hb q => eb b o hb q) f0 f1 f3 f4 f5⟩
  self := fun A i s Q E st h => let ⟨⟨_, he⟩, _⟩ := st; wpAny_pyIter_enum he h

end Mi
set_option maxHeartbeats 4000000
namespace Mi
open PySem PySem.Spec PyProof.Rows L2
def iEnumA (K : PySem.W.Frag) (ta : TA) : TI := fun σ H R => ta σ H fun vs H1 => ∃ a xs, vs = [.ref a] ∧ ((SqL K H1 a xs ∧ R (Ite K a) H1) ∨ (SqT K H1 a xs ∧ R (IteT K a) H1))
theorem pi_enumA {X : Cx} {e : Expr} {ta : TA} {p pos tpos : Pos} {elts : List Expr} {kk : Nat} (hg : Gl X "enumerate") (hm : X.mg "enumerate" = none) (ha : PA X [e] ta) (hs : starEach [e] X.env = [(false, eval e X.env)] := by rfl) :
    PI X (.Tuple elts kk tpos) (.Call (.Name "enumerate" p) [e] [] pos) (iEnumA X.K ta) := by
  refine ⟨fun pins s σ H R I h => ?_⟩
  refine Call_ (ld_blt I hg hm boot_enumerate (PyProof.Rows.callWith_type1 (thn (ha.run pos pins s σ H _ I h) fun us s1 ⟨vs, H1, I1, r1, q1⟩ => ?_) hs rfl))
  obtain ⟨a, xs, ex, q1⟩ := q1
  subst ex
  have fresh : ∀ b, b ∈ [s1.heap.objs.size + 1, s1.heap.objs.size] → FpOk X pins H1 b := fun b hb => by
    have e' : b = s1.heap.objs.size + 1 ∨ b = s1.heap.objs.size := by simpa using hb
    have hle : s1.heap.objs.size ≤ b := by
      rcases e' with z | z
      · rw [z]; exact Nat.le_add_right _ _
      · rw [z]; exact Nat.le_refl _
    exact I1.fpOk hle (I1.hok.fresh hle)
  cases r1 with
  | cons r rr =>
    cases rr
    cases r
    rcases q1 with ⟨hq, q⟩ | ⟨hq, q⟩
    · obtain ⟨its, rv, p', hz⟩ := I1.list hq
      refine call_enumerate_list p'.isList fun h' he hit hsz hk => wpAny_pyIter_enum he ?_
      have I2 : Inv X pins σ H1 { s1 with heap := h' } := I1.kept (t' := s1.toks) hk
      exact ⟨s1.heap.objs.size + 1, [s1.heap.objs.size + 1, s1.heap.objs.size], _, _, H1, rfl, I2, turn_enum a (s1.heap.objs.size + 1) s1.heap.objs.size, ⟨⟨.none, he⟩, hit, Nat.succ_ne_self _⟩, fresh, q⟩
    · obtain ⟨its, rv, p', hz⟩ := I1.tuple hq
      have p' : s1.heap.IsTuple a its.toArray := p'
      have la : a < s1.heap.objs.size := by obtain ⟨_, q, _⟩ := id p'; exact Heap.lt_size q
      refine call_enumerate_tup p' fun h' he hit hsz hk => wpAny_pyIter_enum he ?_
      have I2 : Inv X pins σ H1 { s1 with heap := h' } := I1.kept (t' := s1.toks) hk
      exact ⟨s1.heap.objs.size + 1, [s1.heap.objs.size + 1, s1.heap.objs.size], _, _, H1, rfl, I2, turn_enumT a (s1.heap.objs.size + 1) s1.heap.objs.size (Nat.ne_of_lt (Nat.lt_succ_of_lt la)) (Nat.ne_of_lt la), ⟨⟨.none, he⟩, hit, Nat.succ_ne_self _⟩, fresh, q⟩
/-- a list's or a tuple's items -/
def psOf : Val → Option (List PyData)
  | .pv (.list xs) => some xs
  | .pv (.tuple xs) => some xs
  | _ => none
def enumP (i : Nat) (p : PyData) : Val := .pv (.tuple [.int (i : Nat), p])
def dEnum (A : DE) : DI := fun ρ S => (A ρ S).bind fun x S1 => match psOf x with
  | some xs => .ok (xs.mapIdx enumP) S1
  | none => .bad
def dZip (A B : DE) : DI := fun ρ S => (A ρ S).bind fun x S1 => (B ρ S1).bind fun y S2 => match x, y with
  | .pv (.list xs), .pv (.list ys) => .ok ((xs.zip ys).map fun p => Val.pv (.tuple [p.1, p.2])) S2
  | .pv (.tuple xs), .pv (.tuple ys) => .ok ((xs.zip ys).map fun p => Val.pv (.tuple [p.1, p.2])) S2
  | _, _ => .bad
section
variable {X : Cx} {W : WX} {pos tpos : Pos} {kk : Nat} {A B : DE} {a b : Expr} {elts : List Expr}
theorem rep_new {m : Mp} {H : Hp} {T : Addr} {p q : PyData} {u v : V} (mo : MOk m H) (n : H T = none) (hp : Rep X.prog X.w X.K m H p u) (hq : Rep X.prog X.w X.K m H q v) : Rep X.prog X.w X.K m (upd H T (.tup [u, v])) (.tuple [p, q]) (.ref T) := by
  have g := Go.of (P := X.prog) (w := X.w) (K := X.K) mo (Ext.upd (m := m) (o := .tup [u, v]) n)
  exact ⟨T, [u, v], rfl, SqT.of upd_same, u, _, rfl, Rep.go g _ _ hp, v, _, rfl, Rep.go g _ _ hq, rfl⟩
theorem i_enum {p : Pos} (hm : X.mg "enumerate" = none) (ha : PEv X W a A) (hg : Gl X "enumerate" := by rfl) (hs : starEach [a] X.env = [(false, eval a X.env)] := by rfl) : PIv X W (.Tuple elts kk tpos) (.Call (.Name "enumerate" p) [a] [] pos) (dEnum A) :=
  PI.imp (pi_enumA hg hm (pa_cons ha pa_nil hs) hs) fun σ H R h => tev_get (tevI_top h) fun u H1 ⟨m1, S1, x, s, r, q⟩ => by
    split at q
    · rename_i xs hx
      unfold psOf at hx
      split at hx
      · cases hx
        obtain ⟨a, us, rfl, hl, na, hr⟩ := r
        refine ⟨a, us, rfl, .inl ⟨SqL.of hl, q m1 H1 _ (Ext.refl _ _) s ?_⟩⟩
        intro i m H e mo'
        have hl' : H a = some (.lst us) := e.keep a _ hl (fun z => na (.inl z)) fun _ z => by cases z
        have r' := Reps.go (Go.of (P := X.prog) (w := X.w) (K := X.K) s.mok e) _ _ hr
        have hlen := Reps.length r'
        refine ⟨fun hi => ?_, fun hi => ⟨us, SqL.of hl', by rw [← hlen]; simpa using hi⟩, fun x H' hi ⟨T, y, e1, e2, e3, e4⟩ => ?_⟩
        · have hi' : i < us.length := by rw [← hlen]; simpa using hi
          exact ⟨us, us[i], SqL.of hl', List.getElem?_eq_getElem hi'⟩
        · subst e1 e3
          have hi' : i < xs.length := by simpa using hi
          obtain ⟨u, e5, r5⟩ := Reps.get i r' (List.getElem?_eq_getElem hi')
          have e6 := e4 us (SqL.of hl')
          rw [e5] at e6; cases e6
          exact ⟨fun b o z => by rw [upd_ne (ne_of_none z e2)]; exact z, .pv (.tuple [.int (i : Nat), xs[i]]), by rw [List.getElem?_mapIdx, List.getElem?_eq_getElem hi']; rfl, rep_new mo' e2 (p := .int (i : Nat)) rfl r5⟩
      · cases hx
        obtain ⟨a, us, rfl, hl, hr⟩ := r
        refine ⟨a, us, rfl, .inr ⟨hl, q m1 H1 _ (Ext.refl _ _) s ?_⟩⟩
        intro i m H e mo'
        have gg := Go.of (P := X.prog) (w := X.w) (K := X.K) s.mok e
        have hl' : SqT X.K H a us := gg.tup a us hl
        have r' := Reps.go gg _ _ hr
        have hlen := Reps.length r'
        refine ⟨fun hi => ?_, fun hi => ⟨us, hl', by rw [← hlen]; simpa using hi⟩, fun x H' hi ⟨T, y, e1, e2, e3, e4⟩ => ?_⟩
        · have hi' : i < us.length := by rw [← hlen]; simpa using hi
          exact ⟨us, us[i], hl', List.getElem?_eq_getElem hi'⟩
        · subst e1 e3
          have hi' : i < xs.length := by simpa using hi
          obtain ⟨u, e5, r5⟩ := Reps.get i r' (List.getElem?_eq_getElem hi')
          have e6 := e4 us hl'
          rw [e5] at e6; cases e6
          exact ⟨fun b o z => by rw [upd_ne (ne_of_none z e2)]; exact z, .pv (.tuple [.int (i : Nat), xs[i]]), by rw [List.getElem?_mapIdx, List.getElem?_eq_getElem hi']; rfl, rep_new mo' e2 (p := .int (i : Nat)) rfl r5⟩
      · cases hx
    · exact q.elim
theorem i_zip {p : Pos} (hm : X.mg "zip" = none) (ha : PEv X W a A) (hb : PEv X W b B) (hg : Gl X "zip" := by rfl) (hs : starEach [a, b] X.env = (false, eval a X.env) :: starEach [b] X.env := by rfl) (hpl : (backTo pos (starEach [b] X.env)).any (·.1) = false := by rfl)
    (hs2 : starEach [b] X.env = [(false, eval b X.env)] := by rfl) : PIv X W (.Tuple elts kk tpos) (.Call (.Name "zip" p) [a, b] [] pos) (dZip A B) :=
  PI.imp (RZ.pi_zipA hg hm (pa_cons ha (pa_cons hb pa_nil hs2) (by rw [hs])) hs hpl) fun σ H R h => tev_get (tev2 h) fun u H1 q => tev_get q fun v H2 ⟨m, S, x, y, s, rx, ry, q2⟩ => by
    split at q2
    · rename_i xs ys
      obtain ⟨a, us, rfl, hl, na, hr⟩ := rx
      obtain ⟨b, vs, rfl, hl2, na2, hr2⟩ := ry
      refine ⟨a, b, us, vs, rfl, .inl ⟨SqL.of hl, SqL.of hl2, q2 m H2 _ (Ext.refl _ _) s ?_⟩⟩
      intro i m' H' e mo'
      have hl' : H' a = some (.lst us) := e.keep a _ hl (fun z => na (.inl z)) fun _ z => by cases z
      have hl2' : H' b = some (.lst vs) := e.keep b _ hl2 (fun z => na2 (.inl z)) fun _ z => by cases z
      have gg := Go.of (P := X.prog) (w := X.w) (K := X.K) s.mok e
      have r' := Reps.go gg _ _ hr
      have r2' := Reps.go gg _ _ hr2
      have hlen := Reps.length r'
      have hlen2 := Reps.length r2'
      refine ⟨fun hi => ?_, fun hi => ⟨us, vs, SqL.of hl', SqL.of hl2', ?_⟩, fun x H' hi ⟨T, y, z, e1, e2, e3, e4, e5⟩ => ?_⟩
      · have hi' : i < xs.length ∧ i < ys.length := by simpa [Nat.lt_min] using hi
        exact ⟨us, vs, us[i]'(by omega), vs[i]'(by omega), SqL.of hl', SqL.of hl2', List.getElem?_eq_getElem _, List.getElem?_eq_getElem _⟩
      · have : min xs.length ys.length ≤ i := by simpa using hi
        omega
      · subst e1 e3
        have hi' : i < xs.length ∧ i < ys.length := by simpa [Nat.lt_min] using hi
        obtain ⟨u, f1, f2⟩ := Reps.get i r' (List.getElem?_eq_getElem hi'.1)
        obtain ⟨v, g1, g2⟩ := Reps.get i r2' (List.getElem?_eq_getElem hi'.2)
        have e6 := e4 us (SqL.of hl')
        have e7 := e5 vs (SqL.of hl2')
        rw [f1] at e6; cases e6
        rw [g1] at e7; cases e7
        exact ⟨fun b o z => by rw [upd_ne (ne_of_none z e2)]; exact z, .pv (.tuple [xs[i], ys[i]]), by rw [List.getElem?_map, List.getElem?_eq_getElem (by simp; omega), List.getElem_zip]; rfl, rep_new mo' e2 f2 g2⟩
    · rename_i xs ys
      obtain ⟨a, us, rfl, hl, hr⟩ := rx
      obtain ⟨b, vs, rfl, hl2, hr2⟩ := ry
      refine ⟨a, b, us, vs, rfl, .inr ⟨hl, hl2, q2 m H2 _ (Ext.refl _ _) s ?_⟩⟩
      intro i m' H' e mo'
      have gg := Go.of (P := X.prog) (w := X.w) (K := X.K) s.mok e
      have hl' : SqT X.K H' a us := gg.tup a us hl
      have hl2' : SqT X.K H' b vs := gg.tup b vs hl2
      have r' := Reps.go gg _ _ hr
      have r2' := Reps.go gg _ _ hr2
      have hlen := Reps.length r'
      have hlen2 := Reps.length r2'
      refine ⟨fun hi => ?_, fun hi => ⟨us, vs, hl', hl2', ?_⟩, fun x H' hi ⟨T, y, z, e1, e2, e3, e4, e5⟩ => ?_⟩
      · have hi' : i < xs.length ∧ i < ys.length := by simpa [Nat.lt_min] using hi
        exact ⟨us, vs, us[i]'(by omega), vs[i]'(by omega), hl', hl2', List.getElem?_eq_getElem _, List.getElem?_eq_getElem _⟩
      · have : min xs.length ys.length ≤ i := by simpa using hi
        omega
      · subst e1 e3
        have hi' : i < xs.length ∧ i < ys.length := by simpa [Nat.lt_min] using hi
        obtain ⟨u, f1, f2⟩ := Reps.get i r' (List.getElem?_eq_getElem hi'.1)
        obtain ⟨v, g1, g2⟩ := Reps.get i r2' (List.getElem?_eq_getElem hi'.2)
        have e6 := e4 us hl'
        have e7 := e5 vs hl2'
        rw [f1] at e6; cases e6
        rw [g1] at e7; cases e7
        exact ⟨fun b o z => by rw [upd_ne (ne_of_none z e2)]; exact z, .pv (.tuple [xs[i], ys[i]]), by rw [List.getElem?_map, List.getElem?_eq_getElem (by simp; omega), List.getElem_zip]; rfl, rep_new mo' e2 f2 g2⟩
    · exact q2.elim
end
end Mi
set_option maxHeartbeats 4000000
namespace Mi
open PySem PySem.Spec PyProof.Rows L2
/-- a tuple display of any values, walked -/
def dDisp (As : DA) : DI := fun ρ S => (As ρ S).bind fun xs S1 => if szOk xs.length then .ok xs S1 else .bad
/-- the def that a slot holds, called -/
def dCallV (i : Nat) (tbl : List (Str × Fn)) (As : DA) : DE := fun ρ S => match ρ[i]? with
  | some (some (.fn x)) => match tbl.lookup x with
    | some F => (As ρ S).bind F
    | none => .bad
  | _ => .bad
/-- the defs of a table keep their promises -/
def TbOk (P : Program) (w : World) (K : PySem.W.Frag) (mg : Str → Option Value) (base : Heap) (km : Nat) (tbl : List (Str × Fn)) : Prop := ∀ x F, tbl.lookup x = some F → ∃ k n, DefOk P w K mg base k x n F ∧ Ar n F ∧ k ≤ km
section
variable {P : Program} {w : World} {K : PySem.W.Frag} {mg : Str → Option Value} {base : Heap} {km : Nat}
theorem tb_nil : TbOk P w K mg base km [] := fun x F h => by cases h
theorem tb_cons {k n : Nat} {x : Str} {F : Fn} {tbl : List (Str × Fn)} (D : DefOk P w K mg base k x n F) (ar : Ar n F) (hk : k ≤ km) (t : TbOk P w K mg base km tbl) : TbOk P w K mg base km ((x, F) :: tbl) := fun y G h => by
  rw [List.lookup_cons] at h
  split at h
  · rename_i e
    obtain rfl := beq_iff_eq.mp e
    cases h
    exact ⟨k, n, D, ar, hk⟩
  · exact t y G h
end
section
variable {X : Cx} {W : WX} {pos : Pos} {A B : DE} {a b tg : Expr} {es : List Expr} {As : DA}
theorem RepVs.get {P : Program} {w : World} {K : PySem.W.Frag} {m : Mp} {H : Hp} {mg : Str → Option Value} : ∀ {xs : List Val} {us : List V} (i : Nat) {x : Val}, RepVs P w K m H mg xs us → xs[i]? = some x → ∃ u, us[i]? = some u ∧ RepV P w K m H mg x u
  | [], _, _, _, _, e => by simp at e
  | y :: ys, _, 0, _, ⟨u, r, e, h1, h2⟩, q => by simp at q; subst q; subst e; exact ⟨u, rfl, h1⟩
  | y :: ys, _, i + 1, _, ⟨u, r, e, h1, h2⟩, q => by
    subst e
    obtain ⟨z, e1, r1⟩ := RepVs.get i h2 (by simpa using q)
    exact ⟨z, by simpa using e1, r1⟩
theorem i_disp {k : Nat} (h : PAv X W es As) : PIv X W tg (.Tuple es k pos) (dDisp As) := by
  refine ⟨fun pins s σ H R I h0 => ?_⟩
  refine thn ((pe_tup (x1 := k) (pos := pos) h).run pins s σ H (fun v H1 => ∃ p us m1 S1 xs, v = .ref p ∧ H1 p = some (.tup us) ∧ us.length ≤ sizeLine ∧ RepS X.prog X.w X.K m1 H1 S1 ∧ RepVs X.prog X.w X.K m1 H1 X.mg xs us ∧ PostI (Gx.of X) W σ m1 H1 (.ok xs S1) R) I ?_) fun v s1 ⟨x, H1, I1, r1, p, us, m1, S1, xs, ex, hp, hsz, rs, rv, q⟩ => ?_
  · obtain ⟨m, ρ, S, R0, h0⟩ := h0
    refine ⟨m, ρ, S, R0, ?_⟩
    unfold dDisp at h0
    revert h0
    cases As ρ S with
    | err c f S => exact fun z => z
    | bad => exact fun z => z
    | ok xs S1 =>
      intro h0 m1 H1 us e s r
      simp only [Res.bind_ok] at h0
      split at h0
      · rename_i hz
        have hl : us.length ≤ sizeLine := by rw [← RepVs.length r]; exact sz_of hz
        refine ⟨hl, fun p np => ⟨p, us, m1, S1, xs, rfl, upd_same, hl, s.upd np, RepVs.ext s.mok (Ext.upd np) _ _ r, PostI.ext (G := Gx.of X) h0 (e.trans (Ext.upd np))⟩⟩
      · exact h0.elim
  · subst ex
    cases r1
    have hl : SqT X.K H1 p us := SqT.of hp
    obtain ⟨its, rv', p', hz⟩ := I1.tuple hl
    refine wpAny_pyIter_tuple (show s1.heap.IsTuple p its.toArray from p') ?_
    refine ⟨s1.heap.objs.size, [s1.heap.objs.size], _, _, H1, rfl, I1.kept (t' := s1.toks) fun b o e => Heap.get?_push_of_some _ e, turn_tuple p _, ⟨_, Heap.get?_push_size _ rfl, rfl, rfl⟩, fun b hb => ?_, q m1 H1 _ (Ext.refl _ _) rs ?_⟩
    · have e : b = s1.heap.objs.size := by simpa using hb
      subst e
      exact I1.fpOk (Nat.le_refl _) (I1.hok.fresh (Nat.le_refl _))
    · intro i m H e mo'
      have gg := Go.of (P := X.prog) (w := X.w) (K := X.K) rs.mok e
      have hl' : SqT X.K H p us := gg.tup p us hl
      have r' := RepVs.ext rs.mok e _ _ rv
      have hlen := RepVs.length r'
      refine ⟨fun hi => ?_, fun hi => ⟨us, hl', by rw [← hlen]; exact hi⟩, fun x H' hi ⟨e1, e2⟩ => ?_⟩
      · have hi' : i < us.length := by rw [← hlen]; exact hi
        exact ⟨us, us[i], hl', List.getElem?_eq_getElem hi'⟩
      · subst e1
        refine ⟨fun _ _ h => h, ?_⟩
        obtain ⟨u, e3, r3⟩ := RepVs.get i r' (List.getElem?_eq_getElem hi)
        have e4 := e2 us hl'
        rw [e3] at e4; cases e4
        exact ⟨xs[i], List.getElem?_eq_getElem hi, r3⟩
/-- call(e, ..): a local name holds the def -/
theorem r_callV {x : Str} {i km : Nat} {tbl : List (Str × Fn)} {p : Pos} (Fk : TbOk X.prog X.w X.K X.mg X.base km tbl) (tk : L2N.Takes X W) (hr : Room km X.A) (ha : PAv X W (a :: es) As) (hN : X.N[i]? = some x := by rfl) (hv : Vis X.env.scope x := by first | exact Or.inl rfl | exact Or.inr (Or.inl rfl) | exact Or.inr (Or.inr rfl))
    (hd : (x == ("__debug__" : Str)) = false := by decide) (hcd : (x == ("__classdict__" : Str)) = false := by decide) (he : starEach (a :: es) X.env = (false, eval a X.env) :: starEach es X.env := by rfl)
    (hpl : (backTo pos (starEach es X.env)).any (·.1) = false := by rfl) : PEv X W (.Call (.Name x p) (a :: es) [] pos) (dCallV i tbl As) := by
  refine ⟨fun pins s σ H Q I ⟨m, ρ, S, R, h⟩ => ?_⟩
  unfold dCallV at h
  split at h
  case h_2 => exact h.elim
  rename_i y ey
  split at h
  case h_2 => exact h.elim
  rename_i F eF
  obtain ⟨k, n, D, hF, hk⟩ := Fk y F eF
  obtain ⟨f, fd, ps, hf, hm, hkeep, hb⟩ := D.ex
  obtain ⟨v, e1, f', hm', ev⟩ := R.e.at_ i _ ey
  rw [show X.mg y = some (.ref f') from hm'] at hm
  cases hm
  subst ev
  refine wpAny_Call_Name_kw (thn ((pe_var (pos := p) hN hv hd hcd).run pins s σ H (fun v H1 => v = .ref f ∧ H1 = H) I ⟨.ref f, e1, rfl, rfl⟩) fun u s1 ⟨v, H1, I1, r1, q1⟩ => ?_)
  obtain ⟨rfl, rfl⟩ := q1
  obtain rfl : u = Value.ref f := r1
  have ht : tevA (Gx.of X) W As σ H1 fun vs H1 => spF (Gx.of X) n F vs H1 Q (WE W σ) := by
    have h := tevA_top (k := F) ⟨m, ρ, S, R, h⟩
    obtain ⟨m, ρ, S, R, h⟩ := h
    refine ⟨m, ρ, S, R, ?_⟩
    revert h
    cases As ρ S with
    | err c f S => exact fun z => z
    | bad => exact fun z => z
    | ok xs S1 =>
      intro h m1 H1 us e s r
      obtain ⟨m2, S2, ys, s2, r2, h2⟩ := h m1 H1 us e s r
      have hlen : us.length = n := by
        by_cases z : ys.length = n
        · rw [← z]; exact (RepVs.length r2).symm
        · rw [hF ys S2 z] at h2; exact h2.elim
      refine ⟨hlen, m2, S2, ys, r2, s2, ?_⟩
      revert h2
      cases F ys S2 with
      | ok v S => exact fun z => z
      | err c f S => exact fun z => z
      | bad => exact fun z => z
  refine PySem.W.callWith_K (h₀ := X.base) I1.ok.mod.kin hkeep (thn (ha.run pos pins s1 σ _ _ I1 ht) fun us s2 ⟨vs, H2, I2, r, q⟩ => ⟨I2.kIn, ?_⟩) he hpl
  exact run_fnS hf (hr.mono hk) hb (L2N.passAt tk σ) I2 r q
end
end Mi
set_option maxHeartbeats 4000000
namespace Mi
open PySem PySem.Spec PyProof.Rows L2
def setA (ρ : En) : List Nat → List Val → En
  | i :: is, x :: xs => setA (ρ.set i (some x)) is xs
  | _, _ => ρ
def setV (σ : L2.St) : List Nat → List V → L2.St
  | i :: is, x :: xs => setV (σ.set i (some x)) is xs
  | _, _ => σ
/-- x, y, .. = e1, e2, .. by way of a tuple -/
def dParL (is : List Nat) (As : DA) : DS := fun ρ S => (As ρ S).s ρ fun xs S1 => if xs.length = is.length ∧ szOk xs.length = true then .next (setA ρ is xs) S1 else .bad
def rdV (is : List Nat) : TGs := fun vs σ H Q => vs.length = is.length ∧ Q (setV σ is vs) H
section
variable {X : Cx} {W : WX} {pos : Pos} {a : Expr} {es ts : List Expr} {As : DA}
theorem gv_nil : PGs X [] (rdV []) := PGs.imp pgs_nil fun vs σ H Q ⟨h, q⟩ => by
  have : vs = [] := List.eq_nil_of_length_eq_zero h
  subst this
  exact ⟨rfl, q⟩
theorem gv_cons {i : Nat} {is : List Nat} {x : Str} (hN : X.N.Nodup) (h2 : PGs X es (rdV is)) (hi : X.N[i]? = some x := by rfl) (hx : Loc X.env.scope x := by first | exact .inl rfl | exact .inr rfl)
    (hf : X.fn x = true ∨ X.env.scope.names.lookup x = some .local := by first | exact .inl rfl | exact .inr rfl | assumption)
    (hs : (assignEach (.Name x pos :: es) X.env).map (·.2) = assign (.Name x pos) X.env :: (assignEach es X.env).map (·.2) := by rfl) : PGs X (.Name x pos :: es) (rdV (i :: is)) :=
  PGs.imp (pgs_cons (pg_name hN hi hx hf) h2 hs) fun vs σ H Q ⟨h, q⟩ => by
    cases vs with
    | nil => simp at h
    | cons v vs => exact ⟨v, vs, rfl, by simpa using h, q⟩
theorem Rd0.setA {G : Gx} : ∀ {is : List Nat} {xs : List Val} {us : List V} {m : Mp} {ρ : En} {S : Sto} {σ : L2.St} {H : Hp}, Rd0 G m ρ S σ H → RepVs G.P G.w G.K m H G.mg xs us → Rd0 G m (Mi.setA ρ is xs) S (setV σ is us) H
  | [], _, _, _, _, _, _, _, R, _ => by simpa [Mi.setA, setV] using R
  | _ :: _, [], _, _, _, _, _, _, R, h => by cases h; exact R
  | i :: is, x :: xs, _, m, ρ, S, σ, H, R, ⟨u, r, e, h1, h2⟩ => by
    subst e
    exact Rd0.setA (m := m) (ρ := ρ.set i (some x)) (S := S) (σ := σ.set i (some u)) (H := H) (R.set i h1) h2
theorem s_parA {is : List Nat} {kt k2 n : Nat} {pt pt2 : Pos} (hc : X.calm = true) (ha : PAv X W es As) (hg : PGs X ts (rdV is)) (hn : (assignEach ts X.env).length = n := by rfl) (hst : (assignEach ts X.env).findIdx? (·.1) = none := by rfl) (hl : is.length = n := by rfl)
    (hs : swapsWithSole [.Tuple ts kt pt] (.Tuple es k2 pt2) pos.line X.env = pure false := by rfl) (hw : swappedStores [.Tuple ts kt pt] (.Tuple es k2 pt2) X.env = pure none := by rfl)
    (h1 : (assignEach [.Tuple ts kt pt] X.env).map (·.2) = [assign (.Tuple ts kt pt) X.env] := by rfl) : PSv X W (.Assign [.Tuple ts kt pt] (.Tuple es k2 pt2) pos) (dParL is As) :=
  PS.imp (ps_asg (pe_tup ha) (pg_tup hc hg hn hst) hs hw h1) fun D σ H h => by
    have h := tevSA_top (k := fun ρ xs S1 => if xs.length = is.length ∧ szOk xs.length = true then .next (setA ρ is xs) S1 else .bad) h
    exact tevA_get h fun us H1 ⟨m1, S1, xs, ρ, R, r, h⟩ => by
      split at h
      · rename_i hz
        have hlen := RepVs.length r
        refine ⟨by rw [← hlen]; exact sz_of hz.2, fun p np => ⟨p, us, rfl, SqT.of upd_same, by rw [← hlen, hz.1, hl], by rw [← hlen]; exact hz.1, ?_⟩⟩
        have ex : Ext m1 H1 m1 (upd H1 p (.tup us)) := Ext.upd np
        have R' : Rd0 (Gx.of X) m1 ρ S1 σ (upd H1 p (.tup us)) := R.ext ex (R.s.upd np)
        exact h m1 _ _ ex (R'.setA (RepVs.ext R.s.mok ex _ _ r))
      · exact h.elim
/-- f() -/
theorem r_call0 {x : Str} {k : Nat} {F : Fn} {p : Pos} (Fk : DefOk X.prog X.w X.K X.mg X.base k x 0 F) (tk : L2N.Takes X W) (hr : Room k X.A) (hg : Gl X x := by rfl) (hdb : (x == ("__debug__" : Str)) = false := by decide) : PEv X W (.Call (.Name x p) [] [] pos) (dCall F dNil) := by
  obtain ⟨f, fd, ps, hf, hm, hk, hb⟩ := Fk.ex
  refine ⟨fun pins s σ H Q I ⟨m, ρ, S, R, h⟩ => ?_⟩
  refine wpAny_Call_Name_kw (ld_glob I hg hm ?_ hdb)
  refine PySem.W.callWith_K0 I.kIn hk ?_
  exact run_fnS (us := []) hf hr hb (L2N.passAt tk σ) I .nil ⟨rfl, m, S, [], rfl, R.s, by
    revert h
    show PostE _ _ _ _ _ (F [] S) _ → _
    cases F [] S with
    | ok v S => exact fun z => z
    | err c f S => exact fun z => z
    | bad => exact fun z => z⟩
end
end Mi
set_option maxHeartbeats 2000000
namespace Mi
open PySem PySem.Spec PyProof.Rows L2
variable {X : Cx} {W : WX}
def bNewL : Fn := fun xs S => match xs with
  | [x] => match x.getR S with
    | some (.list ps) => .ok (.loc S.length) (S ++ [.lst ps])
    | some (.tuple ps) => .ok (.loc S.length) (S ++ [.lst ps])
    | _ => .bad
  | _ => .bad
theorem B_listN : Bf X (.type "list") bNewL := by
  intro W σ0 pins s σ H us vs Q I rv h
  obtain ⟨m, S, xs, rs, rx, h⟩ := h
  unfold bNewL at h
  split at h
  · obtain ⟨u, rfl, r⟩ := RepVs.one rx
    have fin : ∀ (ps : List PyData) (us : List V) (p : Addr), H p = none → Reps X.prog X.w X.K m H ps us → (∀ m' H' w, Ext m H m' H' → RepS X.prog X.w X.K m' H' (S ++ [.lst ps]) → RepV X.prog X.w X.K m' H' X.mg (.loc S.length) w → Q w H') → Q (.ref p) (upd H p (.lst us)) := fun ps us p np q h => by
      have ex : Ext m H (m.push p) (upd H p (.lst us)) := Ext.new1 np rs.mok
      have n := rs.new (o := .lst ps) np ⟨us, upd_same, Reps.go (Go.of rs.mok ex) _ _ q⟩
      exact h _ _ _ ex n ⟨by show _ < (m.st ++ [some p]).length; rw [List.length_append, rs.len]; simp, fun a ha => by have ha : (m.st ++ [some p])[S.length]? = some (some a) := ha; rw [← rs.len] at ha; simp at ha; rw [ha]⟩
    split at h
    · rename_i ps hp
      obtain ⟨a, us, rfl, hl, hr⟩ := listR r rs hp
      exact call_list_of pins s σ H _ vs Q I rv ⟨a, us, rfl, .inl hl, fun p np => fin _ _ p np hr h⟩
    · rename_i ps hp
      obtain ⟨a, us, rfl, hl, hr⟩ := notL r rs hp (fun _ z => by cases z)
      exact call_list_of pins s σ H _ vs Q I rv ⟨a, us, rfl, .inr hl, fun p np => fin _ _ p np hr h⟩
    · exact h.elim
  · exact h.elim
/-- list(range(j)) -/
def dLstRg (A : DE) : DE := fun ρ S => (A ρ S).bind fun x S1 => match x with
  | .pv (.int j) => if decide (0 ≤ j) && decide (j ≤ 1000) then .ok (.pv (.list ((List.range j.toNat).map fun i => .int (i : Nat)))) S1 else .bad
  | _ => .bad
theorem r_lstRg {A : DE} {a : Expr} {p p' pos pos' : Pos} (hc : X.calm = true) (hm1 : X.mg "list" = none) (hm2 : X.mg "range" = none) (ha : PEv X W a A) (hg1 : Gl X "list" := by rfl) (hg2 : Gl X "range" := by rfl)
    (na : starEach [a] X.env = (false, eval a X.env) :: starEach [] X.env := by rfl) (nb : starEach [.Call (.Name "range" p') [a] [] pos'] X.env = (false, eval (.Call (.Name "range" p') [a] [] pos') X.env) :: starEach [] X.env := by rfl) :
    PEv X W (.Call (.Name "list" p) [.Call (.Name "range" p') [a] [] pos'] [] pos) (dLstRg A) :=
  PE.imp (pe_listRg hc hg1 hm1 (prg_1 hg2 hm2 ha na) nb) fun σ H Q q => tev_get (tev_top q) fun v H' ⟨m1, S1, x, s1, r1, h1⟩ => by
    split at h1
    · rename_i j
      split at h1
      · rename_i hz
        simp only [Bool.and_eq_true, decide_eq_true_eq] at hz
        cases r1
        refine ⟨j, rfl, RgOk.of_le (by omega) (by omega) (by omega) (by omega), fun p np => h1 m1 _ _ (Ext.upd np) (s1.upd np) ?_⟩
        refine ⟨p, _, rfl, upd_same, s1.notin np, ?_⟩
        have e1 : rgV 0 j = ((List.range j.toNat).map fun i => ((i : Nat) : Int)).map V.int := by
          unfold rgV
          rw [List.map_map, Int.sub_zero]
          exact List.map_congr_left fun i _ => by simp
        have e2 : ((List.range j.toNat).map fun i => PyData.int ((i : Nat) : Int)) = ((List.range j.toNat).map fun i => ((i : Nat) : Int)).map PyData.int := by rw [List.map_map]; rfl
        rw [e1, e2]
        exact reps_ints _
      · exact h1.elim
    · exact h1.elim
end Mi
set_option maxHeartbeats 2000000
namespace Mi
open PySem PySem.Spec PyProof.Rows L2
section
variable {X : Cx} {pos : Pos}
def postD (X : Cx) (p : Addr) (Q : VK) : List (V × V) → Hp → Prop := fun ps H2 => ∃ x y, ps = [(x, y)] ∧ H2 p = some (.dK []) ∧
  ∃ m ps nk ka, x = .ref ka ∧ Rep X.prog X.w X.K m H2 (.tuple ps) x ∧ keyOf (.tuple ps) = some nk ∧ nk.depth ≤ 8 ∧ ∀ ep vv, RelV y vv → (p == sysModules) = false → Q (.ref p) (L2.upd H2 p (DictO X.prog X.w p ⟨ep, [(nk, ka, vv)]⟩))
/-- the new dict stands empty while key and value are made -/
def tDisp1 (X : Cx) (tk tv : TE) : TE := fun σ H Q => ∀ p, H p = none → tPairs [(tk, tv)] σ (L2.upd H p (.dK [])) (postD X p Q)
theorem pe_disp1 (hu : X.A.units + 65 < cLine) {k v : Expr} {tk tv : TE} (hk : PE X k tk) (hv : PE X v tv) : PE X (.Dict [some k] [v] pos) (tDisp1 X tk tv) := by
  refine ⟨fun pins s σ H Q I q => ?_⟩
  have hn := I.hok.fresh (Nat.le_refl s.heap.objs.size)
  have I1 := I.laid (a := s.heap.objs.size) (o := .dK []) (h' := s.heap.push { cls := .type "dict", data := .dict #[] }) (t' := s.toks) (fun _ _ q => Heap.get?_push_of_some _ q) (Nat.le_refl _) (dk_empty s.heap I.big)
  have room : (nestedKind X.prog X.w).room X.A := by show X.A.units + 8 < cLine; omega
  have P : PPs X pos [some k] [v] [(tk, tv)] := pps_cons hk hv pps_nil
  rw [arm_eval_Dict, zip_pairTrees [some k] [v] X.env pos rfl rfl, dictDisplay_pairs _ (by simp [pairTrees]) (by simp [pairTrees])]
  refine wpAny_bind (wpAny_standAt (wpAny_bind (wpAny_subDictH (knd := nestedKind X.prog X.w) (Q := fun d s' => wpAny (model X.prog X.w) X.A (pure (Value.ref d)) (EP X pins σ Q) X.xe s') room (by simp [pairTrees]) ?_)))
  refine thn (P.run pins _ σ _ _ I1 (q _ hn)) fun ws s2 ⟨ps, H2, I2, rel, x, y, ep, e, m, ps', nk, ka, ex, hr, e1, e2, q2⟩ => ?_
  subst ep
  cases rel with
  | @cons a1 b1 as bs h1 h2 =>
    cases h2
    obtain ⟨u, vv⟩ := b1
    obtain ⟨r1, r2⟩ := h1
    subst ex
    obtain rfl : u = Value.ref ka := r1
    obtain ⟨z, hd, vs0, r0, dd⟩ := dk_of I2.hok e
    cases r0
    have hkey : (nestedKind X.prog X.w).is s2.heap nk ka := ⟨nested_of I2 (.tuple ps') (.ref ka) _ nk e1 hr rfl, e2⟩
    have d0 : s2.heap.DictOfH (nestedKind X.prog X.w) s.heap.objs.size [] := by
      obtain ⟨o, es, ep, g1, g2, g3, _, g4, _⟩ := dd
      refine ⟨o, es, ep, g1, g2, g3, ?_, fun x hx => by simp at hx, List.nodup_nil⟩
      cases he : es.toList with
      | nil => rfl
      | cons c r => rw [he] at g4; cases g4
    refine ⟨[(nk, ka, vv)], ⟨rfl, rfl, hkey, trivial⟩, d0, fun h' tk hm' hs' => wpAny_pure ?_⟩
    obtain ⟨o', es, ep, g1, g2, g3, g4, g5, g6⟩ := hm'
    have g4' : es.toList = [(nk, ka, vv)].map (entryOfKey (nestedKind X.prog X.w)) := g4
    have I' := I2.write (x := s.heap.objs.size) (e := s.heap.objs.size) (o := DictO X.prog X.w s.heap.objs.size ⟨ep, [(nk, ka, vv)]⟩) (t' := tk) (h' := h') (by rw [e]; exact True.intro) (.inl rfl) (fun b u hb q => (hs'.2 b hb).trans q) ⟨_, g1⟩
      ⟨⟨o', es, g1, g2, g3, g4'⟩, ⟨_, g1⟩, fun h1 h2 ⟨o', es, g1, g2, g3, g4⟩ st => ⟨o', es, st _ g1, g2, g3, g4⟩⟩
    exact ⟨.ref s.heap.objs.size, _, I', rfl, q2 ep vv r2 hd⟩
end
section
variable {P : Program} {w : World} {K : PySem.W.Frag} {m : Mp} {H : Hp} {p : Addr} {ho : HO}
theorem go_dk (e : H p = some (.dK [])) : Go P w K m H (m.push p) (L2.upd H p ho) where
  tup := fun a us h => by
    rcases h with (h | ⟨o, h⟩) | h
    · exact .inl (.inl (by rw [upd_ne fun z => by rw [z, e] at h; cases h]; exact h))
    · exact .inl (.inr ⟨o, by rw [upd_ne fun z => by rw [z, e] at h; cases h]; exact h⟩)
    · exact .inr h
  lst := fun a us h n => by
    have na : a ≠ p := fun z => by rw [z, e] at h; cases h
    refine ⟨by rw [upd_ne na]; exact h, fun z => ?_⟩
    rcases z with z | z
    · rcases List.mem_append.mp z with z | z
      · exact n (.inl z)
      · simp at z; exact na z
    · exact n (.inr z)
  dct := fun a xs h n => by
    have na : a ≠ p := fun z => by rw [z, e] at h; unfold DictO at h; cases h
    refine ⟨by rw [upd_ne na]; exact h, fun z => ?_⟩
    rcases z with z | z
    · rcases List.mem_append.mp z with z | z
      · exact n (.inl z)
      · simp at z; exact na z
    · exact n (.inr z)
theorem RepS.newK {S : Sto} {o : Ob} (r : RepS P w K m H S) (e : H p = some (.dK [])) (np : ¬ m.has p) (q : RepO P w K (m.push p) (L2.upd H p ho) p o) :
    RepS P w K (m.push p) (L2.upd H p ho) (S ++ [o]) := by
  have g := go_dk (P := P) (w := w) (K := K) (m := m) (ho := ho) e
  have np' : some p ∉ m.st := fun z => np (.inl z)
  refine ⟨by simp [r.len], fun a ha => ⟨fun z => ?_, ?_⟩, tabs_upd r.tabs e (fun _ z => by cases z) (fun c q z => by unfold LamX.CodeO at z; cases z), fun i j a hi hj => ?_, fun l o' e' => ?_⟩
  · rcases List.mem_append.mp z with z | z
    · exact (r.av a ha).1 z
    · simp at z; subst z; exact np (.inr ha)
  · obtain ⟨o, e1, n⟩ := (r.av a ha).2
    exact ⟨o, by rw [upd_ne fun z => np (.inr (by rw [← z]; exact ha))]; exact e1, n⟩
  · have hin : ∀ (i : Nat) (a : Addr), (m.st ++ [some p])[i]? = some (some a) → (i < m.st.length ∧ m.st[i]? = some (some a)) ∨ (i = m.st.length ∧ a = p) := fun i a h => by
      by_cases hi : i < m.st.length
      · rw [List.getElem?_append_left hi] at h; exact .inl ⟨hi, h⟩
      · rw [List.getElem?_append_right (by omega)] at h
        have : i - m.st.length = 0 := by
          by_cases z : i - m.st.length = 0
          · exact z
          · rw [List.getElem?_eq_none (by simp; omega)] at h; cases h
        rw [this] at h; simp at h
        exact .inr ⟨by omega, h.symm⟩
    rcases hin i a hi with ⟨h1, h2⟩ | ⟨h1, h2⟩ <;> rcases hin j a hj with ⟨h3, h4⟩ | ⟨h3, h4⟩
    · exact r.nd i j a h2 h4
    · subst h4; exact absurd (List.mem_of_getElem? h2) np'
    · subst h2; exact absurd (List.mem_of_getElem? h4) np'
    · omega
  · by_cases hl' : l < S.length
    · rw [List.getElem?_append_left hl'] at e'
      have hml : l < m.st.length := by rw [r.len]; exact hl'
      rw [show (m.push p).st[l]? = m.st[l]? from List.getElem?_append_left hml]
      rcases r.ob l o' e' with q' | ⟨a, ea, q'⟩
      · exact .inl q'
      · refine .inr ⟨a, ea, ?_⟩
        have nap : a ≠ p := fun z => np' (z ▸ List.mem_of_getElem? ea)
        cases o' with
        | lst xs => obtain ⟨us, e1, q'⟩ := q'; exact ⟨us, by rw [upd_ne nap]; exact e1, Reps.go g xs us q'⟩
        | dct kvs => obtain ⟨xs, e1, y, z, d, q'⟩ := q'; exact ⟨xs, by rw [upd_ne nap]; exact e1, y, z, d, RepK.go g kvs xs.l q'⟩
        | dead => exact q'
        | tab _ _ => exact q'
    · have e0 : l = S.length := by
        have : l < (S ++ [o]).length := (List.getElem?_eq_some_iff.mp e').1
        simp at this; omega
      subst e0
      rw [List.getElem?_append_right (Nat.le_refl _)] at e'
      simp at e'
      subst e'
      exact .inr ⟨p, by rw [← r.len]; simp, q⟩
theorem Ext.push {m2 : Mp} {H2 : Hp} {o0 : HO} (np : H p = none) (x : Ext m (L2.upd H p o0) m2 H2) : Ext m H (m2.push p) (L2.upd H2 p ho) := by
  have E : Ext m H m2 H2 := (Ext.upd np).trans x
  exact ⟨fun a o e n t => by
    have na : a ≠ p := fun z => by rw [z, np] at e; cases e
    rw [upd_ne na]; exact E.keep a o e n t, fun a h => by
      rcases List.mem_append.mp h with h | h
      · exact E.fresh a h
      · simp at h; subst h; exact .inr (.of np), fun a h => E.frA a h, fun a h => E.avs a h, E.tbs, Nat.le_trans E.len (by simp), fun l a hl h => by
        rw [List.getElem?_append_left (Nat.lt_of_lt_of_le hl E.len)] at h
        exact E.pre l a hl h⟩
end
/-- {key: value} -/
def dDct1 (A B : DE) : DE := fun ρ S => (A ρ S).bind fun x S1 => (B ρ S1).bind fun y S2 => match x with
  | .pv kp => match y with
    | .pv v => match dkey kp with
      | some _ => .ok (.loc S2.length) (S2 ++ [.dct [(kp, v)]])
      | none => .bad
    | _ => .bad
  | _ => .bad
theorem r_dct1 {X : Cx} {W : WX} {pos : Pos} {A B : DE} {a b : Expr} (hu : X.A.units + 65 < cLine) (ha : PEv X W a A) (hb : PEv X W b B) : PEv X W (.Dict [some a] [b] pos) (dDct1 A B) :=
  PE.imp (pe_disp1 hu ha hb) fun σ H Q ⟨m, ρ, S, R, h⟩ => by
    intro p np
    have ex : Ext m H m (L2.upd H p (.dK [])) := Ext.upd np
    show tev (Gx.of X) W A σ (L2.upd H p (.dK [])) fun x H1 => tev (Gx.of X) W B σ H1 fun y H2 => postD X p Q [(x, y)] H2
    have R1 := R.ext ex (R.s.upd np)
    refine ⟨m, ρ, S, R1, ?_⟩
    unfold dDct1 at h
    cases hA : A ρ S with
    | err c f S1 => rw [hA] at h; exact PostE.ext (G := Gx.of X) h ex
    | bad => rw [hA] at h; exact h.elim
    | ok x S1 =>
      rw [hA] at h
      intro m1 H1 u e1 s1 r1
      refine ⟨m1, ρ, S1, R1.ext e1 s1, ?_⟩
      rw [Res.bind_ok] at h
      cases hB : B ρ S1 with
      | err c f S2 => rw [hB] at h; exact PostE.ext (G := Gx.of X) h (ex.trans e1)
      | bad => rw [hB] at h; exact h.elim
      | ok y S2 =>
        rw [hB, Res.bind_ok] at h
        intro m2 H2 v e2 s2 r2
        have r1' := RepV.ext r1 s1.mok e2
        have E2 := e1.trans e2
        split at h
        · split at h
          · split at h
            · rename_i kp vp nk hk
              obtain ⟨⟨ps, rfl⟩, k1, k2⟩ := dkey_of hk
              have hr : Rep X.prog X.w X.K m2 H2 (.tuple ps) u := r1'
              obtain ⟨ka, us, rfl, hT, hrs⟩ := id hr
              have hp : H2 p = some (.dK []) := E2.keep p _ upd_same (fun z => R.s.notin np (.inl z)) (fun _ z => by cases z)
              have nh : ¬ m2.has p := fun z => by
                rcases z with z | z
                · rcases E2.fresh p z with z | z
                  · exact R.s.notin np (.inl z)
                  · obtain ⟨_, y⟩ := z _ upd_same; cases y
                · rcases E2.frA p z with z | z
                  · exact R.s.notin np z
                  · obtain ⟨_, y⟩ := z _ upd_same; cases y
              refine ⟨_, _, rfl, hp, m2, ps, nk, ka, rfl, hr, k1, k2, fun ep vv hv hs => ?_⟩
              have g := go_dk (P := X.prog) (w := X.w) (K := X.K) (m := m2) (ho := DictO X.prog X.w p ⟨ep, [(nk, ka, vv)]⟩) hp
              refine h (m2.push p) _ _ (Ext.push np E2) (s2.newK hp nh ⟨⟨ep, [(nk, ka, vv)]⟩, upd_same, hs, by simp [sizeLine_eq], by simp, nk, ka, vv, v, [], rfl, k1, k2, Rep.go g _ _ hr, hv, Rep.go g _ _ r2, rfl⟩) ⟨by show _ < (m2.st ++ [some p]).length; rw [List.length_append, s2.len]; simp, fun a ha => by have ha : (m2.st ++ [some p])[S2.length]? = some (some a) := ha; rw [← s2.len] at ha; simp at ha; rw [ha]⟩
            · exact h.elim
          · exact h.elim
        · exact h.elim
end Mi
namespace Mi
open PySem PySem.Spec PyProof.Rows L2
/-- a statement of which nothing is claimed (it is never reached) -/
def dBadS : DS := fun _ _ => .bad
theorem s_bad {X : Cx} {W : WX} {st : Stmt} : PSv X W st dBadS := ⟨fun _ _ _ _ _ _ ⟨_, _, _, _, h⟩ => h.elim⟩
theorem ap_BadS {ρ : En} {S : Sto} : dBadS ρ S = .bad := rfl
end Mi
set_option maxHeartbeats 2000000
namespace Mi
open PySem PySem.Spec PyProof.Rows L2
/-- a text's method with one argument -/
def dM1 (f : Str → PyData → Option PyData) (A B : DE) : DE := fun ρ S => (A ρ S).bind fun x S1 => match x with
  | .pv (.str a) => (B ρ S1).bind fun y S2 => match y with
    | .pv p => match f a p with
      | some z => .ok (.pv z) S2
      | none => .bad
    | _ => .bad
  | _ => .bad
section
variable {X : Cx} {W : WX} {A B : DE} {a b : Expr}
theorem r_m1 {ex : Expr} {f : Str → PyData → Option PyData} {r : V → List V → Hp → VK → Prop} (rule : PE X ex (tM1 r (tev (Gx.of X) W A) (tev (Gx.of X) W B)))
    (hr : ∀ (m : Mp) (H : Hp) (S : Sto) (a : Str) (p z : PyData) (v : V) (Q : VK), RepS X.prog X.w X.K m H S → Rep X.prog X.w X.K m H p v → f a p = some z → (∀ m' H' w, Ext m H m' H' → RepS X.prog X.w X.K m' H' S → Rep X.prog X.w X.K m' H' z w → Q w H') → r (.str a) [v] H Q) :
    PEv X W ex (dM1 f A B) := PE.imp rule fun σ H Q ⟨m, ρ, S, R, h⟩ => by
  refine ⟨m, ρ, S, R, ?_⟩
  unfold dM1 at h
  cases hA : A ρ S with
  | err c g S1 => rw [hA] at h; exact h
  | bad => rw [hA] at h; exact h.elim
  | ok x S1 =>
    rw [hA, Res.bind_ok] at h
    intro m1 H1 u e1 s1 r1
    split at h
    · rename_i a
      obtain rfl : u = .str a := r1
      refine ⟨⟨a, rfl⟩, m1, ρ, S1, R.ext e1 s1, ?_⟩
      cases hB : B ρ S1 with
      | err c g S2 => rw [hB] at h; exact PostE.ext (G := Gx.of X) h e1
      | bad => rw [hB] at h; exact h.elim
      | ok y S2 =>
        rw [hB, Res.bind_ok] at h
        intro m2 H2 v e2 s2 r2
        split at h
        · rename_i p
          split at h
          · rename_i z hz
            exact hr m2 H2 S2 a p z v Q s2 r2 hz fun m' H' w e s r => h m' H' w ((e1.trans e2).trans e) s r
          · exact h.elim
        · exact h.elim
    · exact h.elim
def strsOf : List PyData → Option (List Str)
  | [] => some []
  | .str x :: r => (strsOf r).map fun ys => x :: ys
  | _ :: _ => none
theorem strsOf_map : ∀ l : List Str, strsOf (l.map .str) = some l
  | [] => rfl
  | x :: l => by simp [strsOf, strsOf_map l]
theorem reps_strs {P : Program} {w : World} {K : PySem.W.Frag} {m : Mp} {H : Hp} : ∀ l : List Str, Reps P w K m H (l.map .str) (l.map V.str)
  | [] => rfl
  | i :: r => ⟨_, _, rfl, rfl, reps_strs r⟩
theorem strs_reps {P : Program} {w : World} {K : PySem.W.Frag} {m : Mp} {H : Hp} : ∀ {ps : List PyData} {ys : List Str} {us : List V}, strsOf ps = some ys → Reps P w K m H ps us → us = ys.map V.str
  | [], ys, us, e, h => by cases e; exact h
  | p :: ps, ys, us, e, ⟨u, r, eu, h1, h2⟩ => by
    cases p with
    | str x =>
      simp only [strsOf, Option.map_eq_some_iff] at e
      obtain ⟨ys', e', rfl⟩ := e
      obtain rfl : u = .str x := h1
      rw [eu, strs_reps e' h2]; rfl
    | _ => simp [strsOf] at e
def joinS (a : Str) (ps : List PyData) : Option PyData := match strsOf ps with
  | some ys => if szOk ((ys.map (·.length)).sum + ys.length * a.length) then some (.str (Txt.join a ys)) else none
  | none => none
def fJoin (a : Str) : PyData → Option PyData
  | .list ps => joinS a ps
  | .tuple ps => joinS a ps
  | _ => none
def fSplit (a : Str) : PyData → Option PyData
  | .str b => if !(b.length == 0) && decide (a.length ≤ 100000) then some (.list ((Txt.split a b).map .str)) else none
  | _ => none
theorem r_join {apos pos : Pos} (ho : PEv X W a A) (he : PEv X W b B) (hs : starEach [b] X.env = [(false, eval b X.env)] := by rfl) (hbase : attributeBase a "join" X.env (eval a X.env) = eval a X.env := by rfl) (hline : (apos.endLine == pos.line) = true := by rfl) :
    PEv X W (.Call (.Attribute a "join" apos) [b] [] pos) (dM1 fJoin A B) :=
  r_m1 (pe_join ho he hs hbase hline) fun m H S t p z v Q s r e k => by
    unfold fJoin at e
    split at e
    · unfold joinS at e
      split at e
      · rename_i ys hy
        split at e
        · rename_i hz
          cases e
          obtain ⟨l, us, rfl, hl, hn, hr⟩ := r
          have hu := strs_reps hy hr
          subst hu
          exact ⟨t, l, ys, rfl, rfl, .inl (SqL.of hl), of_decide_eq_true hz, k m H _ (Ext.refl _ _) s rfl⟩
        · cases e
      · cases e
    · unfold joinS at e
      split at e
      · rename_i ys hy
        split at e
        · rename_i hz
          cases e
          obtain ⟨l, us, rfl, hl, hr⟩ := r
          have hu := strs_reps hy hr
          subst hu
          exact ⟨t, l, ys, rfl, rfl, .inr hl, of_decide_eq_true hz, k m H _ (Ext.refl _ _) s rfl⟩
        · cases e
      · cases e
    · cases e
theorem r_split {apos pos : Pos} (ho : PEv X W a A) (he : PEv X W b B) (hs : starEach [b] X.env = [(false, eval b X.env)] := by rfl) (hbase : attributeBase a "split" X.env (eval a X.env) = eval a X.env := by rfl) (hline : (apos.endLine == pos.line) = true := by rfl) :
    PEv X W (.Call (.Attribute a "split" apos) [b] [] pos) (dM1 fSplit A B) :=
  r_m1 (pe_split ho he hs hbase hline) fun m H S t p z v Q s r e k => by
    unfold fSplit at e
    split at e
    · rename_i y
      split at e
      · rename_i hz
        cases e
        simp only [Bool.and_eq_true, Bool.not_eq_true', decide_eq_true_eq] at hz
        obtain rfl : v = .str y := r
        refine ⟨t, y, rfl, rfl, hz.1, by rw [sizeLine_eq]; omega, fun p np => k m _ _ (Ext.upd np) (s.upd np) ⟨p, _, rfl, upd_same, s.notin np, reps_strs _⟩⟩
      · cases e
    · cases e
/-- a name of the module that stands for a tuple of texts -/
def gtB (K : PySem.W.Frag) (x : Str) (l : List Str) : Bool := He.tupB K x (l.map .str)
theorem r_gtup {x : Str} {l : List Str} {pos : Pos} (hg : Gl X x) (hm : X.mg x = some (.ref (He.ga X.K x))) (hT : gtB X.K x l = true) (hd : (x == ("__debug__" : Str)) = false := by decide) : PEv X W (.Name x pos) (dC (.tuple (l.map .str))) :=
  PE.imp (pe_glob (v := .ref (He.ga X.K x)) hg hm rfl hd) fun σ H Q ⟨m, ρ, S, R, h⟩ => post_ok h R.s ⟨He.ga X.K x, l.map V.str, rfl, by
    have e := He.tupB_ok hT H
    rw [List.map_map] at e
    exact e, reps_strs l⟩
end
end Mi
set_option maxHeartbeats 4000000
namespace Law
open PySem PySem.Spec PyProof.Rows L2 L2H LamX Mi
def cs : List Str := ["InvalidChain"]
def wh : Nat := 3000
noncomputable def F_law_open : Fn := dFun 2 3 ((dSeq (dSet 2 (d2 opAdd (dIx (dIx (dNm 1) (dC (.int 0))) (dC (.int 1))) (dTup (dCons (dIx (dIx (dIx (dIx (dNm 0) (dC (.int 0))) (dC (.int 1))) (dIx (dIx (dNm 1) (dC (.int 0))) (dC (.int 0)))) (dC (.int 1))) dNil))))
  (dRet (dIx (dNm 2) (dC (.int 0))))))
theorem ar_law_open : Ar 2 (F_law_open) := ar_dFun _ _ _
noncomputable def F_law_beats : Fn := dFun 2 5 ((dSeq (dSet 2 (dIf (dTst (dCall F_law_open (dCons (dNm 0) (dCons (dNm 1) dNil)))) (dLst (dCons (dC (.bool false)) (dCons (dC (.bool true)) dNil))) (dLst (dCons (dC (.bool false)) dNil))))
  (dSeq (dSet 3 (dLst dNil))
  (dSeq (dFor (dItems (dNm 2)) (gN 4)
  (dSet 3 (d2 opAdd (dNm 3) (dLst (dCons (dTup (dCons (dNm 4) (dCons (dC (.bool false)) dNil))) (dCons (dTup (dCons (dNm 4) (dCons (dC (.bool true)) dNil))) dNil))))))
  (dRet (dNm 3))))))
theorem ar_law_beats : Ar 2 (F_law_beats) := ar_dFun _ _ _
noncomputable def F_law_begin : Fn := dFun 1 2 ((dRet (dCall (b1 fTuple) (dCons (dLc (dItems (dNm 0)) [1] (gN 1) dYes (dTup (dCons (dC (.int 0)) (dCons (d2 opMul (dTup (dCons (dC (.bool false)) dNil)) (dIx (dNm 1) (dC (.int 0)))) dNil)))) dNil))))
theorem ar_law_begin : Ar 1 (F_law_begin) := ar_dFun _ _ _
noncomputable def F_law_fault : Fn := dFun 2 9 ((dSeq (dAs (gT [(gN 2), (gN 3), (gN 4), (gN 5), (gN 6)]) (dNm 1))
  (dSeq (dSet 7 (d2 opSub (d2 opAdd (dIx (dIx (dIx (dNm 0) (dC (.int 1))) (dNm 2)) (dC (.int 0))) (dIf (dTst (dNm 4)) (dC (.int 1)) (dC (.int 0)))) (dIf (dTst (dNm 6)) (dC (.int 1)) (dC (.int 0)))))
  (dSeq (dIfS (dAndT (dTst (dNm 6)) (dNotT (dTst (dNm 5))))
  (dRet (dC (.str "pushed")))
  dPass)
  (dSeq (dSet 8 (dIx (dIx (dIx (dNm 0) (dC (.int 1))) (dNm 3)) (dC (.int 0))))
  (dRet (dIf (dTst (d2 opEq (dNm 8) (dNm 7))) (dC .none) (dIf (dTst (d2 opLt (dNm 8) (dNm 7))) (dC (.str "lost")) (dC (.str "made"))))))))))
theorem ar_law_fault : Ar 2 (F_law_fault) := ar_dFun _ _ _
noncomputable def F_law_on : Fn := dFun 4 15 ((dSeq (dPar 4 5 (dCons (dNew dNil) (dCons (dC (.bool false)) dNil)))
  (dSeq (dFor (dEnum (dNm 0)) (gT [(gN 6), (gN 7)])
  (dSeq (dSet 8 (dNm 3))
  (dSeq (dIfS (dTst (d2 opLt (d2 opAdd (dNm 6) (dC (.int 1))) (dCall (b1 fLen) (dCons (dNm 0) dNil))))
  (dSeq (dSet 9 (d2 opAdd (dIx (dIx (dNm 1) (d2 opAdd (dNm 6) (dC (.int 1)))) (dC (.int 1))) (dTup (dCons (dIx (dIx (dIx (dIx (dNm 0) (d2 opAdd (dNm 6) (dC (.int 1)))) (dC (.int 1))) (dIx (dIx (dNm 1) (d2 opAdd (dNm 6) (dC (.int 1)))) (dC (.int 0)))) (dC (.int 1))) dNil))))
  (dSet 8 (dIx (dNm 9) (dC (.int 0)))))
  dPass)
  (dSeq (dAs (gT [(gN 10), (gN 11)]) (dIx (dNm 1) (dNm 6)))
  (dSeq (dAs (gT [(gN 12), (gN 13)]) (dIx (dIx (dIx (dIx (dNm 7) (dC (.int 1))) (dNm 10)) (dC (.int 2))) (d2 opAdd (dIf (dTst (dNm 2)) (dC (.int 2)) (dC (.int 0))) (dIf (dTst (dNm 8)) (dC (.int 1)) (dC (.int 0))))))
  (dSeq (dSet 14 (dTup (dCons (dNm 10) (dCons (dNm 12) (dCons (dNm 2) (dCons (dNm 8) (dCons (dNm 13) dNil)))))))
  (dSeq (dSet 5 (dOr (dNm 5) (d2 opIsNot (dCall F_law_fault (dCons (dNm 7) (dCons (dNm 14) dNil))) (dC .none))))
  (dSeq (dDo (dApp (dNm 4) (dTup (dCons (dNm 12) (dCons (dSl (d2 opAdd (dNm 11) (dTup (dCons (dIx (dIx (dIx (dNm 7) (dC (.int 1))) (dNm 10)) (dC (.int 1))) dNil))) (dPt (dC (.int 1))) dNo) dNil)))))
  (dSet 2 (dNm 13))))))))))
  (dRet (dTup (dCons (dCall (b1 fTuple) (dCons (dNm 4) dNil)) (dCons (dNm 2) (dCons (dNm 5) dNil))))))))
theorem ar_law_on : Ar 4 (F_law_on) := ar_dFun _ _ _
noncomputable def F_law_all : Fn := dFun 1 12 ((dSeq (dPar 1 2 (dCons (dCall F_law_begin (dCons (dNm 0) dNil)) (dCons (dC .none) dNil)))
  (dSeq (dPar3 3 4 5 (dCons (dDct1 (dNm 1) (dTup dNil)) (dCons (dNew (dCons (dNm 1) dNil)) (dCons (dC (.int 0)) dNil))))
  (dSeq (dWhile wh (dAndT (dTst (d2 opLt (dNm 5) (dCall (b1 fLen) (dCons (dNm 4) dNil)))) (dTst (d2 opLt (dNm 5) (dC (.int 400)))))
  (dSeq (dFor (dItems (dCall F_law_beats (dCons (dNm 0) (dCons (dIx (dNm 4) (dNm 5)) dNil)))) (gT [(gN 6), (gN 7)])
  (dSeq (dAs (gT [(gN 8), (gN 9), (gN 10)]) (dCall F_law_on (dCons (dNm 0) (dCons (dIx (dNm 4) (dNm 5)) (dCons (dNm 6) (dCons (dNm 7) dNil))))))
  (dSeq (dSet 11 (d2 opAdd (dIx (dNm 3) (dIx (dNm 4) (dNm 5))) (dTup (dCons (dTup (dCons (dNm 6) (dCons (dNm 7) dNil))) dNil))))
  (dSeq (dIfS (dAndT (dTst (dNm 10)) (dTst (d2 opIs (dNm 2) (dC .none))))
  (dSet 2 (dNm 11))
  dPass)
  (dIfS (dTst (d2 opNotIn (dNm 8) (dNm 3)))
  (dSeq (dSub (dNm 3) (dNm 8) (dNm 11))
  (dDo (dApp (dNm 4) (dNm 8))))
  dPass)))))
  (dSet 5 (d2 opAdd (dNm 5) (dC (.int 1))))))
  (dRet (dTup (dCons (dFz 3) (dCons (dNm 2) dNil))))))))
theorem ar_law_all : Ar 1 (F_law_all) := ar_dFun _ _ _
noncomputable def F_law_under : Fn := dFun 2 4 ((dSeq (dIfS (dTst (d2 opGt (dIx (dNm 0) (dC (.int 0))) (dC (.int 0))))
  (dSeq (dSet 2 (d2 opMod (dCall (b1 fInt) (dCons (dIx (dNm 0) (dC (.int 0))) dNil)) (dNm 1)))
  (dSeq (dSub (dNm 0) (dC (.int 0)) (d2 opDiv (dIx (dNm 0) (dC (.int 0))) (dNm 1)))
  (dRet (dNm 2))))
  dPass)
  (dSeq (dSub (dNm 0) (dC (.int 1)) (d2 opMod (dCall (b1 fInt) (dCons (d2 opAdd (d2 opMul (dIx (dNm 0) (dC (.int 1))) (dC (.int 39373))) (dC (.int 101))) dNil)) (dC (.int 2147483629))))
  (dSeq (dSet 3 (d2 opMod (dCall (b1 fInt) (dCons (d2 opMul (dIx (dNm 0) (dC (.int 1))) (d2 opAdd (d2 opDiv (dIx (dNm 0) (dC (.int 1))) (dC (.int 5))) (dC (.int 9)))) dNil)) (dC (.int 2147483587))))
  (dRet (d2 opMod (dCall (b1 fInt) (dCons (d2 opDiv (dNm 3) (dC (.int 32))) dNil)) (dNm 1)))))))
theorem ar_law_under : Ar 2 (F_law_under) := ar_dFun _ _ _
noncomputable def F_law_any_row : Fn := dFun 2 4 ((dSeq (dSet 2 (dLc (dRng1 (dC (.int 4))) [3] (gN 3) dYes (dTup (dCons (dCall F_law_under (dCons (dNm 0) (dCons (dNm 1) dNil))) (dCons (d2 opEq (dCall F_law_under (dCons (dNm 0) (dCons (dC (.int 3)) dNil))) (dC (.int 0))) dNil)))))
  (dRet (dTup (dCons (dCall F_law_under (dCons (dNm 0) (dCons (dC (.int 3)) dNil))) (dCons (d2 opEq (dCall F_law_under (dCons (dNm 0) (dCons (dC (.int 2)) dNil))) (dC (.int 0))) (dCons (dCall (b1 fTuple) (dCons (dNm 2) dNil)) dNil)))))))
theorem ar_law_any_row : Ar 2 (F_law_any_row) := ar_dFun _ _ _
noncomputable def F_law_otherwise : Fn := dFun 2 11 ((dSeq (dAs (gT [(gN 2), (gN 3)]) (dNm 1))
  (dSeq (dPar 4 5 (dCons (dCall F_law_under (dCons (dNm 0) (dCons (dCall (b1 fLen) (dCons (dNm 3) dNil)) dNil))) (dCons (dCall F_law_under (dCons (dNm 0) (dCons (dC (.int 4)) dNil))) dNil)))
  (dSeq (dAs (gT [(gN 6), (gN 7), (gN 8)]) (dIx (dNm 3) (dNm 4)))
  (dSeq (dIfS (dTst (d2 opEq (dCall F_law_under (dCons (dNm 0) (dCons (dC (.int 2)) dNil))) (dC (.int 0))))
  (dSet 9 (dTup (dCons (dNm 6) (dCons (dNot (dNm 7)) (dCons (dNm 8) dNil)))))
  (dSeq (dSet 10 (dTup (dCons (dCall F_law_under (dCons (dNm 0) (dCons (dCall (b1 fLen) (dCons (dNm 3) dNil)) dNil))) (dCons (d2 opEq (dCall F_law_under (dCons (dNm 0) (dCons (dC (.int 2)) dNil))) (dC (.int 0))) dNil))))
  (dSet 9 (dTup (dCons (dNm 6) (dCons (dNm 7) (dCons (d2 opAdd (d2 opAdd (dSl (dNm 8) dNo (dPt (dNm 5))) (dTup (dCons (dNm 10) dNil))) (dSl (dNm 8) (dPt (d2 opAdd (dNm 5) (dC (.int 1)))) dNo)) dNil)))))))
  (dRet (dTup (dCons (dNm 2) (dCons (d2 opAdd (d2 opAdd (dSl (dNm 3) dNo (dPt (dNm 4))) (dTup (dCons (dNm 9) dNil))) (dSl (dNm 3) (dPt (d2 opAdd (dNm 4) (dC (.int 1)))) dNo)) dNil)))))))))
theorem ar_law_otherwise : Ar 2 (F_law_otherwise) := ar_dFun _ _ _
noncomputable def F_law_queue : Fn := dFun 3 6 ((dSeq (dSet 3 (dNew dNil))
  (dSeq (dFor (dRng1 (d2 opAdd (dNm 0) (dC (.int 1)))) (gN 4)
  (dSeq (dSet 5 (dLst (dCons (dTup (dCons (dNm 4) (dCons (dC (.bool false)) dNil))) (dCons (dTup (dCons (dCall b2max (dCons (dC (.int 0)) (dCons (d2 opSub (dNm 4) (dC (.int 1))) dNil))) (dCons (d2 opGt (dNm 4) (dC (.int 0))) dNil))) dNil))))
  (dSeq (dSet 5 (d2 opAdd (dNm 5) (dLst (dCons (dTup (dCons (dCall b2min (dCons (dNm 0) (dCons (d2 opAdd (dNm 4) (dC (.int 1))) dNil))) (dCons (dC (.bool false)) dNil))) (dCons (dTup (dCons (dCall b2max (dCons (dC (.int 1)) (dCons (dNm 4) dNil))) (dCons (d2 opGt (dNm 4) (dC (.int 0))) dNil))) dNil)))))
  (dDo (dApp (dNm 3) (dTup (dCons (dNm 4) (dCons (d2 opLe (dNm 4) (d2 opSub (dNm 0) (dNm 1))) (dCons (dCall (b1 fTuple) (dCons (dNm 5) dNil)) dNil)))))))))
  (dRet (dTup (dCons (dNm 2) (dCons (dCall (b1 fTuple) (dCons (dNm 3) dNil)) dNil)))))))
theorem ar_law_queue : Ar 3 (F_law_queue) := ar_dFun _ _ _
noncomputable def F_law_some : Fn := dFun 2 2 ((dRet (dIx (dNm 1) (dCall F_law_under (dCons (dNm 0) (dCons (dCall (b1 fLen) (dCons (dNm 1) dNil)) dNil))))))
theorem ar_law_some : Ar 2 (F_law_some) := ar_dFun _ _ _
noncomputable def F_law_stage : Fn := dFun 1 6 ((dSeq (dSet 1 (dCall F_law_some (dCons (dNm 0) (dCons (dLst (dCons (dC (.int 0)) (dCons (dC (.int 0)) (dCons (dC (.int 1)) (dCons (dC (.int 1)) (dCons (dC (.int 2)) dNil)))))) dNil))))
  (dSeq (dIfS (dTst (d2 opGt (dCall F_law_under (dCons (dNm 0) (dCons (dC (.int 4)) dNil))) (dC (.int 0))))
  (dSeq (dSet 2 (dCall F_law_queue (dCons (d2 opAdd (dC (.int 1)) (dCall F_law_under (dCons (dNm 0) (dCons (dC (.int 3)) dNil)))) (dCons (dCall F_law_under (dCons (dNm 0) (dCons (dC (.int 4)) dNil))) (dCons (dNm 1) dNil)))))
  (dRet (dIf (dTst (d2 opEq (dCall F_law_under (dCons (dNm 0) (dCons (dC (.int 2)) dNil))) (dC (.int 0)))) (dNm 2) (dCall F_law_otherwise (dCons (dNm 0) (dCons (dNm 2) dNil))))))
  dPass)
  (dSeq (dSet 3 (d2 opAdd (dC (.int 1)) (dCall F_law_under (dCons (dNm 0) (dCons (dC (.int 4)) dNil)))))
  (dSeq (dSet 4 (dLc (dRng1 (dNm 3)) [5] (gN 5) dYes (dCall F_law_any_row (dCons (dNm 0) (dCons (dNm 3) dNil)))))
  (dRet (dTup (dCons (dNm 1) (dCons (d2 opAdd (dTup (dCons (d2 opAdd (dTup (dCons (dC (.int 0)) dNil)) (dSl (dIx (dNm 4) (dC (.int 0))) (dPt (dC (.int 1))) dNo)) dNil)) (dCall (b1 fTuple) (dCons (dSl (dNm 4) (dPt (dC (.int 1))) dNo) dNil))) dNil)))))))))
theorem ar_law_stage : Ar 1 (F_law_stage) := ar_dFun _ _ _
noncomputable def F_law_chain : Fn := dFun 2 3 ((dRet (dCall (b1 fTuple) (dCons (dLc (dRng1 (d2 opAdd (dC (.int 1)) (dCall F_law_under (dCons (dNm 0) (dCons (dNm 1) dNil))))) [2] (gN 2) dYes (dCall F_law_stage (dCons (dNm 0) dNil))) dNil))))
theorem ar_law_chain : Ar 2 (F_law_chain) := ar_dFun _ _ _
noncomputable def F_law_word : Fn := dFun 4 5 ((dSeq (dSet 4 (d2 opSub (dNm 3) (dIx (dIx (dNm 0) (dNm 2)) (dC (.int 0)))))
  (dRet (dIf (dTst (d2 opGe (dNm 4) (dC (.int 0)))) (dIx (dIx (dNm 1) (dNm 4)) (dNm 2)) (dC (.bool false))))))
theorem ar_law_word : Ar 4 (F_law_word) := ar_dFun _ _ _
noncomputable def B_law_gone_0 : DS := (dSeq (dSet 12 (dIf (dTst (d2 opLt (d2 opAdd (dNm 10) (dC (.int 1))) (dCall (b1 fLen) (dCons (dNm 0) dNil)))) (dCall F_law_word (dCons (dNm 0) (dCons (dNm 3) (dCons (d2 opAdd (dNm 10) (dC (.int 1))) (dCons (dNm 5) dNil))))) (dNm 7)))
  (dSeq (dAs (gT [(gN 13), (gN 14)]) (dIx (dIx (dIx (dIx (dNm 11) (dC (.int 1))) (dIx (dNm 2) (dNm 10))) (dC (.int 2))) (d2 opAdd (dIf (dTst (dNm 6)) (dC (.int 2)) (dC (.int 0))) (dIf (dTst (dNm 12)) (dC (.int 1)) (dC (.int 0))))))
  (dSeq (dDo (dApp (dNm 8) (dTup (dCons (dIx (dNm 2) (dNm 10)) (dCons (dNm 13) (dCons (dNm 6) (dCons (dNm 12) (dCons (dNm 14) dNil))))))))
  (dSeq (dDo (dApp (dNm 9) (dNm 13)))
  (dSet 6 (dNm 14))))))
noncomputable def B_law_gone_1 : DS := (dSeq (dSet 3 (d2 opAdd (dNm 3) (dLst (dCons (dLc (dEnum (dNm 0)) [10, 11] (gT [(gN 10), (gN 11)]) dYes (dIx (dIx (dIx (dNm 11) (dC (.int 1))) (dIx (dNm 2) (dNm 10))) (dC (.int 1)))) dNil))))
  (dSeq (dPar 8 9 (dCons (dNew dNil) (dCons (dNew dNil) dNil)))
  (dSeq (dFor (dEnum (dNm 0)) (gT [(gN 10), (gN 11)])
  B_law_gone_0)
  (dSeq (dSet 2 (dFz 9))
  (dSeq (dSet 15 (dLc (dEnum (dNm 0)) [10, 11] (gT [(gN 10), (gN 11)]) dYes (dIx (dIx (dIx (dNm 11) (dC (.int 1))) (dIx (dNm 2) (dNm 10))) (dC (.int 0)))))
  (dDo (dApp (dNm 4) (dTup (dCons (dIx (dNm 3) (dNeg (dC (.int 1)))) (dCons (dFz 8) (dCons (dCall (b1 fSum) (dCons (dNm 15) dNil)) dNil)))))))))))
noncomputable def F_law_gone : Fn := dFun 2 16 ((dSeq (dParL [2, 3, 4] (dCons (d2 opMul (dLst (dCons (dC (.int 0)) dNil)) (dCall (b1 fLen) (dCons (dNm 0) dNil))) (dCons (dLst dNil) (dCons (dNew dNil) dNil))))
  (dSeq (dFor (dEnum (dNm 1)) (gT [(gN 5), (gT [(gN 6), (gN 7)])])
  B_law_gone_1)
  (dRet (dFz 4)))))
theorem ar_law_gone : Ar 2 (F_law_gone) := ar_dFun _ _ _
noncomputable def F_law_can_give : Fn := dFun 2 4 ((dSeq (dSet 2 (dCall F_law_gone (dCons (dNm 0) (dCons (d2 opAdd (dNm 1) (dTup (dCons (dTup (dCons (dC (.bool false)) (dCons (dC (.bool false)) dNil))) dNil))) dNil))))
  (dRet (dCall F_law_word (dCons (dNm 0) (dCons (dLc (dItems (dNm 2)) [3] (gN 3) dYes (dIx (dNm 3) (dC (.int 0)))) (dCons (dC (.int 0)) (dCons (dCall (b1 fLen) (dCons (dNm 1) dNil)) dNil))))))))
theorem ar_law_can_give : Ar 2 (F_law_can_give) := ar_dFun _ _ _
noncomputable def F_law_course : Fn := dFun 3 6 ((dSeq (dSet 3 (dTup dNil))
  (dSeq (dFor (dRng1 (dCall F_law_under (dCons (dNm 0) (dCons (d2 opAdd (dNm 2) (dC (.int 1))) dNil)))) (gN 4)
  (dSeq (dSet 5 (dAnd (dCall F_law_can_give (dCons (dNm 1) (dCons (dNm 3) dNil))) (d2 opGt (dCall F_law_under (dCons (dNm 0) (dCons (dC (.int 4)) dNil))) (dC (.int 0)))))
  (dSet 3 (d2 opAdd (dNm 3) (dTup (dCons (dTup (dCons (dNm 5) (dCons (d2 opEq (dCall F_law_under (dCons (dNm 0) (dCons (dC (.int 2)) dNil))) (dC (.int 0))) dNil))) dNil))))))
  (dRet (dNm 3)))))
theorem ar_law_course : Ar 3 (F_law_course) := ar_dFun _ _ _
noncomputable def F_law_first_fault : Fn := dFun 2 8 ((dSeq (dFor (dEnum (dCall F_law_gone (dCons (dNm 0) (dCons (dNm 1) dNil)))) (gT [(gN 2), (gT [(gN 3), (gN 4), (gN 5)])])
  (dFor (dEnum (dNm 4)) (gT [(gN 6), (gN 7)])
  (dIfS (dTst (d2 opIsNot (dCall F_law_fault (dCons (dIx (dNm 0) (dNm 6)) (dCons (dNm 7) dNil))) (dC .none)))
  (dRet (dTup (dCons (dNm 2) (dCons (dNm 6) (dCons (dCall F_law_fault (dCons (dIx (dNm 0) (dNm 6)) (dCons (dNm 7) dNil))) dNil)))))
  dPass)))
  (dRet (dC .none))))
theorem ar_law_first_fault : Ar 2 (F_law_first_fault) := ar_dFun _ _ _
noncomputable def F_law_good_stage : Fn := dFun 1 3 ((dSeq (dPar 1 2 (dCons (dCall F_law_under (dCons (dNm 0) (dCons (dC (.int 3)) dNil))) (dCons (d2 opAdd (dC (.int 1)) (dCall F_law_under (dCons (dNm 0) (dCons (dC (.int 3)) dNil)))) dNil)))
  (dRet (dCall F_law_queue (dCons (dNm 2) (dCons (d2 opAdd (dCall b2min (dCons (dNm 2) (dCons (dNm 1) dNil))) (dC (.int 1))) (dCons (dNm 1) dNil)))))))
theorem ar_law_good_stage : Ar 1 (F_law_good_stage) := ar_dFun _ _ _
noncomputable def F_law_vat : Fn := dFun 2 3 ((dSeq (dSet 2 (d2 opAdd (d2 opMul (dC (.int 7919)) (dNm 1)) (dC (.int 43))))
  (dSeq (dIfS (dTst (d2 opLt (dNm 1) (dCall (b1 fLen) (dCons (dNm 0) dNil))))
  (dSet 2 (dCall (b1 fAbs) (dCons (dCall (b1 fInt) (dCons (dIx (dNm 0) (dNm 1)) dNil)) dNil)))
  dPass)
  (dRet (dNew (dCons (dIf (dTst (d2 opGe (dNm 2) (d2 opPow (dC (.int 10)) (dC (.int 18))))) (dNm 2) (dC (.int 0))) (dCons (d2 opAdd (d2 opMod (dCall (b1 fInt) (dCons (d2 opAdd (d2 opAdd (d2 opMul (dNm 2) (dC (.int 131071))) (d2 opMul (dC (.int 8191)) (dNm 1))) (dC (.int 5))) dNil)) (dC (.int 2147483629))) (dC (.int 1))) dNil)))))))
theorem ar_law_vat : Ar 2 (F_law_vat) := ar_dFun _ _ _
noncomputable def F_p_words_of : Fn := dFun 2 2 ((dRet (d2 opAdd (dIx (dNm 1) (dC (.int 1))) (dTup (dCons (dIx (dIx (dIx (dNm 0) (dC (.int 1))) (dIx (dNm 1) (dC (.int 0)))) (dC (.int 1))) dNil)))))
theorem ar_p_words_of : Ar 2 (F_p_words_of) := ar_dFun _ _ _
noncomputable def F_p_reached : Fn := dFun 2 2 ((dRet (dIx (dCall F_p_words_of (dCons (dNm 0) (dCons (dNm 1) dNil))) (dC (.int 0)))))
theorem ar_p_reached : Ar 2 (F_p_reached) := ar_dFun _ _ _
noncomputable def F_p_beats_of : Fn := dFun 2 3 ((dSeq (dSet 2 (dLst (dCons (dTup (dCons (dC (.bool false)) (dCons (dC (.bool false)) dNil))) (dCons (dTup (dCons (dC (.bool false)) (dCons (dC (.bool true)) dNil))) dNil))))
  (dRet (dIf (dTst (dCall F_p_reached (dCons (dNm 0) (dCons (dNm 1) dNil)))) (d2 opAdd (dNm 2) (dLst (dCons (dTup (dCons (dC (.bool true)) (dCons (dC (.bool false)) dNil))) (dCons (dTup (dCons (dC (.bool true)) (dCons (dC (.bool true)) dNil))) dNil)))) (dNm 2)))))
theorem ar_p_beats_of : Ar 2 (F_p_beats_of) := ar_dFun _ _ _
noncomputable def F_p_frees_of : Fn := dFun 3 4 ((dRet (d2 opAdd (dLc (dRng2 (dC (.int 1)) (dCall (b1 fLen) (dCons (dNm 0) dNil))) [3] (gN 3) dYes (dCall F_p_reached (dCons (dIx (dNm 0) (dNm 3)) (dCons (dIx (dNm 1) (dNm 3)) dNil)))) (dLst (dCons (dNm 2) dNil)))))
theorem ar_p_frees_of : Ar 3 (F_p_frees_of) := ar_dFun _ _ _
noncomputable def F_p_step : Fn := dFun 4 6 ((dSeq (dAs (gT [(gN 4), (gN 5)]) (dIx (dIx (dIx (dIx (dNm 0) (dC (.int 1))) (dIx (dNm 1) (dC (.int 0)))) (dC (.int 2))) (d2 opAdd (d2 opMul (dC (.int 2)) (dCall (b1 fInt) (dCons (dNm 2) dNil))) (dCall (b1 fInt) (dCons (dNm 3) dNil)))))
  (dRet (dTup (dCons (dTup (dCons (dNm 4) (dCons (dSl (dCall F_p_words_of (dCons (dNm 0) (dCons (dNm 1) dNil))) (dPt (dC (.int 1))) dNo) dNil))) (dCons (dNm 5) dNil))))))
theorem ar_p_step : Ar 4 (F_p_step) := ar_dFun _ _ _
noncomputable def F_p_wrong_word : Fn := dFun 4 7 ((dSeq (dAs (gT [(gN 4), (gN 5)]) (dCall F_p_step (dCons (dNm 0) (dCons (dNm 1) (dCons (dNm 2) (dCons (dNm 3) dNil))))))
  (dSeq (dIfS (dAndT (dTst (dNm 5)) (dNotT (dTst (dNm 3))))
  (dRet (dC (.str "pushed")))
  dPass)
  (dSeq (dSet 6 (d2 opAdd (d2 opSub (d2 opSub (dIx (dIx (dIx (dNm 0) (dC (.int 1))) (dIx (dNm 4) (dC (.int 0)))) (dC (.int 0))) (dIx (dIx (dIx (dNm 0) (dC (.int 1))) (dIx (dNm 1) (dC (.int 0)))) (dC (.int 0)))) (dCall (b1 fInt) (dCons (dNm 2) dNil))) (dCall (b1 fInt) (dCons (dNm 5) dNil))))
  (dRet (dIf (dTst (d2 opEq (dNm 6) (dC (.int 0)))) (dC .none) (dIf (dTst (d2 opLt (dNm 6) (dC (.int 0)))) (dC (.str "lost")) (dC (.str "made")))))))))
theorem ar_p_wrong_word : Ar 4 (F_p_wrong_word) := ar_dFun _ _ _
noncomputable def F_p_chain_step : Fn := dFun 4 10 ((dSeq (dAs (gT [(gN 4), (gN 5)]) (dTup (dCons (dTup dNil) (dCons (dC .none) dNil))))
  (dSeq (dFor (dEnum (dCall F_p_frees_of (dCons (dNm 0) (dCons (dNm 1) (dCons (dNm 3) dNil))))) (gT [(gN 6), (gN 7)])
  (dSeq (dSet 8 (dCall F_p_wrong_word (dCons (dIx (dNm 0) (dNm 6)) (dCons (dIx (dNm 1) (dNm 6)) (dCons (dNm 2) (dCons (dNm 7) dNil))))))
  (dSeq (dSet 5 (dIf (dAndT (dTst (d2 opIs (dNm 5) (dC .none))) (dTst (d2 opIsNot (dNm 8) (dC .none)))) (dTup (dCons (dNm 6) (dCons (dNm 8) dNil))) (dNm 5)))
  (dSeq (dAs (gT [(gN 9), (gN 2)]) (dCall F_p_step (dCons (dIx (dNm 0) (dNm 6)) (dCons (dIx (dNm 1) (dNm 6)) (dCons (dNm 2) (dCons (dNm 7) dNil))))))
  (dSet 4 (d2 opAdd (dNm 4) (dTup (dCons (dNm 9) dNil))))))))
  (dRet (dTup (dCons (dNm 4) (dCons (dNm 2) (dCons (dNm 5) dNil))))))))
theorem ar_p_chain_step : Ar 4 (F_p_chain_step) := ar_dFun _ _ _
noncomputable def F_p_first_state : Fn := dFun 1 1 ((dRet (dTup (dCons (dC (.int 0)) (dCons (d2 opMul (dTup (dCons (dC (.bool false)) dNil)) (dIx (dNm 0) (dC (.int 0)))) dNil)))))
theorem ar_p_first_state : Ar 1 (F_p_first_state) := ar_dFun _ _ _
noncomputable def F_p_first_of : Fn := dFun 1 2 ((dRet (dCall (b1 fTuple) (dCons (dLc (dItems (dNm 0)) [1] (gN 1) dYes (dCall F_p_first_state (dCons (dNm 1) dNil))) dNil))))
theorem ar_p_first_of : Ar 1 (F_p_first_of) := ar_dFun _ _ _
noncomputable def F_p_all_ways : Fn := dFun 1 8 ((dSeq (dPar3 1 2 3 (dCons (dDct1 (dCall F_p_first_of (dCons (dNm 0) dNil)) (dTup dNil)) (dCons (dNew (dCons (dCall F_p_first_of (dCons (dNm 0) dNil)) dNil)) (dCons (dC (.int 0)) dNil))))
  (dSeq (dWhile wh (dTst (d2 opLt (dNm 3) (dCall (b1 fLen) (dCons (dNm 2) dNil))))
  (dSeq (dPar 4 3 (dCons (dIx (dNm 2) (dNm 3)) (dCons (d2 opAdd (dNm 3) (dC (.int 1))) dNil)))
  (dSeq (dFor (dItems (dCall F_p_beats_of (dCons (dIx (dNm 0) (dC (.int 0))) (dCons (dIx (dNm 4) (dC (.int 0))) dNil)))) (gT [(gN 5), (gN 6)])
  (dSeq (dSet 7 (dIx (dCall F_p_chain_step (dCons (dNm 0) (dCons (dNm 4) (dCons (dNm 5) (dCons (dNm 6) dNil))))) (dC (.int 0))))
  (dIfS (dTst (d2 opNotIn (dNm 7) (dNm 1)))
  (dSeq (dSub (dNm 1) (dNm 7) (d2 opAdd (dIx (dNm 1) (dNm 4)) (dTup (dCons (dTup (dCons (dNm 5) (dCons (dNm 6) dNil))) dNil))))
  (dDo (dApp (dNm 2) (dNm 7))))
  dPass)))
  (dIfS (dTst (d2 opGt (dCall (b1 fLen) (dCons (dNm 1) dNil)) (dC (.int 3000))))
  dBadS
  dPass))))
  (dRet (dFz 1)))))
theorem ar_p_all_ways : Ar 1 (F_p_all_ways) := ar_dFun _ _ _
noncomputable def F_p_is_whole : Fn := dFun 3 3 ((dRet (dAnd (dIsi "int" (dNm 0)) (dAnd (dNot (dIsi "bool" (dNm 0))) (dCh opLe opLe (dNm 1) (dNm 0) (dNm 2))))))
theorem ar_p_is_whole : Ar 3 (F_p_is_whole) := ar_dFun _ _ _
noncomputable def F_p_is_move : Fn := dFun 2 2 ((dSeq (dIfS (dOrT (dNotT (dTst (dIsi "tuple" (dNm 0)))) (dOrT (dTst (d2 opNe (dCall (b1 fLen) (dCons (dNm 0) dNil)) (dC (.int 2)))) (dNotT (dTst (dCall F_p_is_whole (dCons (dIx (dNm 0) (dC (.int 0))) (dCons (dC (.int 0)) (dCons (d2 opSub (dNm 1) (dC (.int 1))) dNil))))))))
  (dRet (dC (.bool false)))
  dPass)
  (dRet (dIsi "bool" (dIx (dNm 0) (dC (.int 1)))))))
theorem ar_p_is_move : Ar 2 (F_p_is_move) := ar_dFun _ _ _
noncomputable def F_p_is_row : Fn := dFun 2 3 ((dSeq (dIfS (dOrT (dNotT (dTst (dIsi "tuple" (dNm 0)))) (dOrT (dTst (d2 opNe (dCall (b1 fLen) (dCons (dNm 0) dNil)) (dC (.int 3)))) (dNotT (dTst (dCall F_p_is_whole (dCons (dIx (dNm 0) (dC (.int 0))) (dCons (dC (.int 0)) (dCons (dC (.int 6)) dNil))))))))
  (dRet (dC (.bool false)))
  dPass)
  (dSeq (dIfS (dOrT (dNotT (dTst (dIsi "bool" (dIx (dNm 0) (dC (.int 1)))))) (dOrT (dNotT (dTst (dIsi "tuple" (dIx (dNm 0) (dC (.int 2)))))) (dTst (d2 opNe (dCall (b1 fLen) (dCons (dIx (dNm 0) (dC (.int 2))) dNil)) (dC (.int 4))))))
  (dRet (dC (.bool false)))
  dPass)
  (dRet (d2 opEq (dLc (dItems (dIx (dNm 0) (dC (.int 2)))) [2] (gN 2) (dNotT (dTst (dCall F_p_is_move (dCons (dNm 2) (dCons (dNm 1) dNil))))) (dNm 2)) (dLst dNil))))))
theorem ar_p_is_row : Ar 2 (F_p_is_row) := ar_dFun _ _ _
noncomputable def F_p_has_stage : Fn := dFun 1 2 ((dSeq (dIfS (dOrT (dNotT (dTst (dIsi "tuple" (dNm 0)))) (dOrT (dTst (d2 opNe (dCall (b1 fLen) (dCons (dNm 0) dNil)) (dC (.int 2)))) (dNotT (dTst (dCall F_p_is_whole (dCons (dIx (dNm 0) (dC (.int 0))) (dCons (dC (.int 0)) (dCons (dC (.int 2)) dNil))))))))
  (dRet (dC (.bool false)))
  dPass)
  (dSeq (dIfS (dOrT (dNotT (dTst (dIsi "tuple" (dIx (dNm 0) (dC (.int 1)))))) (dNotT (dTst (dCh opLe opLe (dC (.int 1)) (dCall (b1 fLen) (dCons (dIx (dNm 0) (dC (.int 1))) dNil)) (dC (.int 6))))))
  (dRet (dC (.bool false)))
  dPass)
  (dSeq (dIfS (dTst (d2 opNe (dLc (dItems (dIx (dNm 0) (dC (.int 1)))) [1] (gN 1) (dNotT (dTst (dCall F_p_is_row (dCons (dNm 1) (dCons (dCall (b1 fLen) (dCons (dIx (dNm 0) (dC (.int 1))) dNil)) dNil))))) (dNm 1)) (dLst dNil)))
  (dRet (dC (.bool false)))
  dPass)
  (dRet (d2 opEq (dIx (dIx (dIx (dNm 0) (dC (.int 1))) (dC (.int 0))) (dC (.int 0))) (dC (.int 0))))))))
theorem ar_p_has_stage : Ar 1 (F_p_has_stage) := ar_dFun _ _ _
noncomputable def F_p_has_chain : Fn := dFun 1 2 ((dSeq (dIfS (dOrT (dNotT (dTst (dIsi "tuple" (dNm 0)))) (dNotT (dTst (dCh opLe opLe (dC (.int 1)) (dCall (b1 fLen) (dCons (dNm 0) dNil)) (dC (.int 4))))))
  (dRet (dC (.bool false)))
  dPass)
  (dRet (d2 opEq (dLc (dItems (dNm 0)) [1] (gN 1) (dNotT (dTst (dCall F_p_has_stage (dCons (dNm 1) dNil)))) (dNm 1)) (dLst dNil)))))
theorem ar_p_has_chain : Ar 1 (F_p_has_chain) := ar_dFun _ _ _
noncomputable def F_p_need_chain : Fn := dFun 1 1 ((dIfS (dNotT (dTst (dCall F_p_has_chain (dCons (dNm 0) dNil))))
  (dRaise "InvalidChain")
  dPass))
theorem ar_p_need_chain : Ar 1 (F_p_need_chain) := ar_dFun _ _ _
noncomputable def F_p_count_states : Fn := dFun 1 1 ((dSeq (dDo (dCall F_p_need_chain (dCons (dNm 0) dNil)))
  (dRet (dCall (b1 fLen) (dCons (dCall F_p_all_ways (dCons (dNm 0) dNil)) dNil)))))
theorem ar_p_count_states : Ar 1 (F_p_count_states) := ar_dFun _ _ _
noncomputable def F_p_need_stage : Fn := dFun 1 1 ((dIfS (dNotT (dTst (dCall F_p_has_stage (dCons (dNm 0) dNil))))
  (dRaise "InvalidStage")
  dPass))
theorem ar_p_need_stage : Ar 1 (F_p_need_stage) := ar_dFun _ _ _
noncomputable def F_p_found_wrong : Fn := dFun 1 7 ((dSeq (dPar3 1 2 3 (dCons (dLst (dCons (dCall F_p_first_state (dCons (dNm 0) dNil)) dNil)) (dCons (dLst (dCons (dTup dNil) dNil)) (dCons (dC (.int 0)) dNil))))
  (dSeq (dWhile wh (dTst (d2 opLt (dNm 3) (dCall (b1 fLen) (dCons (dNm 1) dNil))))
  (dSeq (dFor (dItems (dCall F_p_beats_of (dCons (dNm 0) (dCons (dIx (dNm 1) (dNm 3)) dNil)))) (gT [(gN 4), (gN 5)])
  (dSeq (dIfS (dTst (d2 opIsNot (dCall F_p_wrong_word (dCons (dNm 0) (dCons (dIx (dNm 1) (dNm 3)) (dCons (dNm 4) (dCons (dNm 5) dNil))))) (dC .none)))
  (dRet (dTup (dCons (dNm 1) (dCons (d2 opAdd (dIx (dNm 2) (dNm 3)) (dTup (dCons (dTup (dCons (dNm 4) (dCons (dNm 5) dNil))) dNil))) dNil))))
  dPass)
  (dSeq (dSet 6 (dIx (dCall F_p_step (dCons (dNm 0) (dCons (dIx (dNm 1) (dNm 3)) (dCons (dNm 4) (dCons (dNm 5) dNil))))) (dC (.int 0))))
  (dIfS (dTst (d2 opNotIn (dNm 6) (dNm 1)))
  (dPar 1 2 (dCons (d2 opAdd (dNm 1) (dLst (dCons (dNm 6) dNil))) (dCons (d2 opAdd (dNm 2) (dLst (dCons (d2 opAdd (dIx (dNm 2) (dNm 3)) (dTup (dCons (dTup (dCons (dNm 4) (dCons (dNm 5) dNil))) dNil))) dNil))) dNil)))
  dPass))))
  (dSet 3 (d2 opAdd (dNm 3) (dC (.int 1))))))
  (dRet (dTup (dCons (dNm 1) (dCons (dC .none) dNil)))))))
theorem ar_p_found_wrong : Ar 1 (F_p_found_wrong) := ar_dFun _ _ _
noncomputable def F_p_never_wrong : Fn := dFun 1 1 ((dRet (d2 opIs (dIx (dCall F_p_found_wrong (dCons (dNm 0) dNil)) (dC (.int 1))) (dC .none))))
theorem ar_p_never_wrong : Ar 1 (F_p_never_wrong) := ar_dFun _ _ _
noncomputable def F_p_is_good : Fn := dFun 1 1 ((dSeq (dDo (dCall F_p_need_stage (dCons (dNm 0) dNil)))
  (dRet (dCall F_p_never_wrong (dCons (dNm 0) dNil)))))
theorem ar_p_is_good : Ar 1 (F_p_is_good) := ar_dFun _ _ _
noncomputable def F_p_wrong_chain : Fn := dFun 1 5 ((dSeq (dDo (dCall F_p_need_chain (dCons (dNm 0) dNil)))
  (dSeq (dSet 1 (dCall F_p_all_ways (dCons (dNm 0) dNil)))
  (dSeq (dFor (dItems (dNm 1)) (gN 2)
  (dFor (dItems (dCall F_p_beats_of (dCons (dIx (dNm 0) (dC (.int 0))) (dCons (dIx (dNm 2) (dC (.int 0))) dNil)))) (gT [(gN 3), (gN 4)])
  (dIfS (dTst (d2 opIsNot (dIx (dCall F_p_chain_step (dCons (dNm 0) (dCons (dNm 2) (dCons (dNm 3) (dCons (dNm 4) dNil))))) (dC (.int 2))) (dC .none)))
  (dRet (d2 opAdd (dIx (dNm 1) (dNm 2)) (dTup (dCons (dTup (dCons (dNm 3) (dCons (dNm 4) dNil))) dNil))))
  dPass)))
  (dRet (dC .none))))))
theorem ar_p_wrong_chain : Ar 1 (F_p_wrong_chain) := ar_dFun _ _ _
noncomputable def B_p_law_0 : DS := (dSeq (dIfS (dOrT (dTst (d2 opNe (dCall F_p_count_states (dCons (dNm 4) dNil)) (dCall (b1 fLen) (dCons (dNm 5) dNil)))) (dTst (d2 opNe (dCall F_p_wrong_chain (dCons (dNm 4) dNil)) (dNm 6))))
  (dRet (dC (.bool false)))
  dPass)
  (dIfS (dAndT (dTst (d2 opIsNot (dNm 6) (dC .none))) (dTst (d2 opNe (dIx (dCall F_law_first_fault (dCons (dNm 4) (dCons (dNm 6) dNil))) (dC (.int 0))) (d2 opSub (dCall (b1 fLen) (dCons (dNm 6) dNil)) (dC (.int 1))))))
  (dRet (dC (.bool false)))
  dPass))
noncomputable def B_p_law_1 : DS := (dSeq (dSet 4 (dCall F_law_chain (dCons (dNm 2) (dCons (dC (.int 2)) dNil))))
  (dSeq (dAs (gT [(gN 5), (gN 6)]) (dCall F_law_all (dCons (dNm 4) dNil)))
  (dIfS (dTst (d2 opLt (dCall (b1 fLen) (dCons (dNm 5) dNil)) (dC (.int 400))))
  B_p_law_0
  dPass)))
noncomputable def B_p_law_2 (K : PySem.W.Frag) : DS := (dSeq (dSet 2 (dCall F_law_vat (dCons (dNm 0) (dCons (dNm 1) dNil))))
  (dSeq (dFor (dRng1 (dC (.int 3))) (gN 3)
  B_p_law_1)
  (dSeq (dSet 4 (dCall (b1 fTuple) (dCons (dLc (dRng1 (d2 opAdd (dC (.int 1)) (dCall F_law_under (dCons (dNm 2) (dCons (dC (.int 4)) dNil))))) [14] (gN 14) dYes (dCall F_law_good_stage (dCons (dNm 2) dNil))) dNil)))
  (dSeq (dIfS (dOrT (dTst (d2 opNe (dLc (dItems (dNm 4)) [15] (gN 15) (dNotT (dTst (dCall F_p_is_good (dCons (dNm 15) dNil)))) (dNm 15)) (dLst dNil))) (dTst (d2 opIsNot (dCall F_p_wrong_chain (dCons (dSl (dNm 4) dNo (dPt (dC (.int 2)))) dNil)) (dC .none))))
  (dRet (dC (.bool false)))
  dPass)
  (dSeq (dSet 7 (dCall F_law_course (dCons (dNm 2) (dCons (dNm 4) (dCons (dC (.int 30)) dNil)))))
  (dSeq (dSet 8 (dCall F_law_gone (dCons (dNm 4) (dCons (dNm 7) dNil))))
  (dSeq (dSet 9 (dCall (b1 fLen) (dCons (dLc (dItems (dNm 7)) [16] (gN 16) (dTst (dIx (dNm 16) (dC (.int 0)))) (dNm 16)) dNil)))
  (dSeq (dSet 9 (d2 opSub (dNm 9) (dCall (b1 fLen) (dCons (dLc (dItems (dNm 8)) [17] (gN 17) (dTst (dIx (dIx (dIx (dNm 17) (dC (.int 1))) (dNeg (dC (.int 1)))) (dC (.int 4)))) (dNm 17)) dNil))))
  (dSeq (dIfS (dOrT (dTst (d2 opIsNot (dCall F_law_first_fault (dCons (dNm 4) (dCons (dNm 7) dNil))) (dC .none))) (dAndT (dTst (d2 opNe (dNm 7) (dTup dNil))) (dTst (d2 opNe (dNm 9) (dIx (dIx (dNm 8) (dNeg (dC (.int 1)))) (dC (.int 2)))))))
  (dRet (dC (.bool false)))
  dPass)
  (dIfS (dTst (d2 opNe (dLc (dDisp (dCons (dFn "count_states") (dCons (dFn "wrong_chain") dNil))) [18] (gN 18) dYes (dErr cs (tP K "law") (lamQ "law") (dCallV 18 [("count_states", F_p_count_states), ("wrong_chain", F_p_wrong_chain)] (dCons (dTup (dCons (dIx (dNm 4) (dC (.int 0))) (dCons (dC .none) dNil))) dNil)))) (d2 opMul (dLst (dCons (dC (.str "chain value")) dNil)) (dC (.int 2)))))
  (dRet (dC (.bool false)))
  dPass))))))))))
noncomputable def F_p_law (K : PySem.W.Frag) : Fn := dFun 1 19 ((dSeq (dFor (dRng1 (dCall b2max (dCons (dC (.int 4)) (dCons (dCall b2min (dCons (dC (.int 10)) (dCons (dCall (b1 fLen) (dCons (dNm 0) dNil)) dNil))) dNil)))) (gN 1)
  (B_p_law_2 K))
  (dSeq (dPar3 10 11 12 (dCons (dCall F_law_queue (dCons (dC (.int 1)) (dCons (dC (.int 1)) (dCons (dC (.int 0)) dNil)))) (dCons (dCall F_law_queue (dCons (dC (.int 2)) (dCons (dC (.int 1)) (dCons (dC (.int 0)) dNil)))) (dCons (dCall F_law_queue (dCons (dC (.int 2)) (dCons (dC (.int 1)) (dCons (dC (.int 1)) dNil)))) dNil))))
  (dSeq (dIfS (dTst (d2 opNe (dLst (dCons (dCall F_p_count_states (dCons (dTup (dCons (dNm 10) dNil)) dNil)) (dCons (dCall F_p_count_states (dCons (dTup (dCons (dNm 10) (dCons (dNm 10) dNil))) dNil)) (dCons (dCall F_p_count_states (dCons (dTup (dCons (dCall F_law_queue (dCons (dC (.int 2)) (dCons (dC (.int 2)) (dCons (dC (.int 1)) dNil)))) dNil)) dNil)) dNil)))) (dLst (dCons (dC (.int 2)) (dCons (dC (.int 4)) (dCons (dC (.int 5)) dNil))))))
  (dRet (dC (.bool false)))
  dPass)
  (dSeq (dIfS (dOrT (dTst (d2 opIsNot (dCall F_p_wrong_chain (dCons (dTup (dCons (dNm 10) (dCons (dNm 10) dNil))) dNil)) (dC .none))) (dTst (d2 opNe (dCall F_p_wrong_chain (dCons (dTup (dCons (dNm 11) (dCons (dNm 12) dNil))) dNil)) (d2 opAdd (d2 opMul (dTup (dCons (dTup (dCons (dC (.bool true)) (dCons (dC (.bool false)) dNil))) dNil)) (dC (.int 3))) (dTup (dCons (dTup (dCons (dC (.bool false)) (dCons (dC (.bool false)) dNil))) dNil))))))
  (dRet (dC (.bool false)))
  dPass)
  (dSeq (dSet 13 (dTup (dCons (dC (.int 0)) (dCons (d2 opAdd (dSl (dIx (dNm 10) (dC (.int 1))) dNo (dPt (dC (.int 1)))) (dTup (dCons (dTup (dCons (dC (.int 1)) (dCons (dC (.bool false)) (dCons (d2 opMul (dTup (dCons (dTup (dCons (dC (.int 1)) (dCons (dC (.bool false)) dNil))) (dCons (dTup (dCons (dC (.int 2)) (dCons (dC (.bool false)) dNil))) dNil))) (dC (.int 2))) dNil)))) (dCons (dTup (dCons (dC (.int 1)) (dCons (dC (.bool false)) (dCons (d2 opMul (dTup (dCons (dTup (dCons (dC (.int 2)) (dCons (dC (.bool false)) dNil))) (dCons (dTup (dCons (dC (.int 0)) (dCons (dC (.bool true)) dNil))) dNil))) (dC (.int 2))) dNil)))) dNil)))) dNil))))
  (dRet (dAnd (dCall F_p_is_good (dCons (dNm 13) dNil)) (dAnd (d2 opIs (dCall F_p_wrong_chain (dCons (dTup (dCons (dNm 13) (dCons (dNm 12) dNil))) dNil)) (dC .none)) (d2 opIsNot (dCall F_p_wrong_chain (dCons (dTup (dCons (dNm 12) dNil)) dNil)) (dC .none)))))))))))
theorem ar_p_law (K : PySem.W.Frag) : Ar 1 (F_p_law K) := ar_dFun _ _ _
end Law
set_option maxHeartbeats 4000000
namespace Law
open PySem PySem.Spec PyProof.Rows L2 L2H LamX Mi
/-- the draws' list at l -/
def Vat (l : Nat) (S : Sto) : Prop := ∃ a b : Int, S[l]? = some (.lst [.int a, .int b]) ∧ 0 ≤ a ∧ 0 ≤ b ∧ b < 2 ^ 64
/-- drawn: all else stays -/
structure Nx (l : Nat) (S S' : Sto) : Prop where
  len : S'.length = S.length
  vat : Vat l S'
  oth : ∀ j, j ≠ l → S'[j]? = S[j]?
theorem Nx.trans {l : Nat} {S S1 S2 : Sto} (a : Nx l S S1) (b : Nx l S1 S2) : Nx l S S2 := ⟨b.len.trans a.len, b.vat, fun j h => (b.oth j h).trans (a.oth j h)⟩
theorem Nx.refl {l : Nat} {S : Sto} (h : Vat l S) : Nx l S S := ⟨rfl, h, fun _ _ => rfl⟩
theorem Nx.take {l : Nat} {S S' : Sto} (a : Nx l S S') : S'.take S.length = S' := by rw [← a.len, List.take_length]
theorem Vat.lt {l : Nat} {S : Sto} (h : Vat l S) : l < S.length := by
  obtain ⟨a, b, e, _⟩ := h
  exact (List.getElem?_eq_some_iff.mp e).1
theorem Vat.set {l : Nat} {S : Sto} (h : Vat l S) {a b : Int} (ha : 0 ≤ a) (hb : 0 ≤ b) (hb2 : b < 2 ^ 64) : Nx l S (S.set l (.lst [.int a, .int b])) :=
  ⟨by simp, ⟨a, b, by rw [List.getElem?_set_self h.lt], ha, hb, hb2⟩, fun j hj => by rw [List.getElem?_set_ne (Ne.symm hj)]⟩
theorem sat_under {l : Nat} {m : Int} {S : Sto} {E : Str → Sto → Prop} {Q : Val → Sto → Prop} (v : Vat l S) (h0 : 0 < m) (h1 : m < 1073741824) (h : ∀ r S', 0 ≤ r → r < m → Nx l S S' → Q (.pv (.int r)) S') : (F_law_under [.loc l, .pv (.int m)] S).sat E Q := by
  obtain ⟨a, b, e, ha, hb, hb2⟩ := id v
  have hlt := v.lt
  unfold F_law_under
  refine sat_fun rfl ?_
  have g : Val.getR (.loc l) S = some (.list [.int a, .int b]) := by simp [Val.getR, Val.get, e]
  have i0 : liftIx (.loc l) (.pv (.int 0)) S = .ok (.pv (.int a)) S := by simp [liftIx, g, Val.get, ixOf, L2.atI, L2.ixN]
  have i1 : liftIx (.loc l) (.pv (.int 1)) S = .ok (.pv (.int b)) S := by simp [liftIx, g, Val.get, ixOf, L2.atI, L2.ixN]
  by_cases hp : 0 < a
  · have hm : 0 ≤ a % m := Int.emod_nonneg _ (by omega)
    have hm2 : a % m < m := Int.emod_lt_of_pos _ h0
    have hd : 0 ≤ a / m := Int.ediv_nonneg ha (by omega)
    have fs : fSet (.loc l) (.pv (.int 0)) (.pv (.int (a / m))) S = some (S.set l (.lst [.int (a / m), .int b])) := by simp [fSet, e, L2.ixN]
    simp [i0, l2_pv, opGt, hp, b1_pv, fInt, opMod, h0, opDiv, h1, fs]
    have nx := v.set (a := a / m) (b := b) hd hb hb2
    rw [nx.take]
    exact h _ _ hm hm2 nx
  · have ha0 : a = 0 := by omega
    subst ha0
    have key : ∀ b2 : Int, 0 ≤ b2 → b2 < 2147483629 → Val.getR (.loc l) (S.set l (.lst [.int 0, .int b2])) = some (.list [.int 0, .int b2]) := fun b2 _ _ => by simp [Val.getR, Val.get, List.getElem?_set_self hlt]
    have hb3 : 0 ≤ (b * 39373 + 101) % 2147483629 := Int.emod_nonneg _ (by decide)
    have hb4 : (b * 39373 + 101) % 2147483629 < 2147483629 := Int.emod_lt_of_pos _ (by decide)
    have fs : fSet (.loc l) (.pv (.int 1)) (.pv (.int ((b * 39373 + 101) % 2147483629))) S = some (S.set l (.lst [.int 0, .int ((b * 39373 + 101) % 2147483629)])) := by simp [fSet, e, L2.ixN]
    have j1 : liftIx (.loc l) (.pv (.int 1)) (S.set l (.lst [.int 0, .int ((b * 39373 + 101) % 2147483629)])) = .ok (.pv (.int ((b * 39373 + 101) % 2147483629))) (S.set l (.lst [.int 0, .int ((b * 39373 + 101) % 2147483629)])) := by
      simp [liftIx, key _ hb3 hb4, Val.get, ixOf, L2.atI, L2.ixN]
    generalize hb5 : (b * 39373 + 101) % 2147483629 = c at *
    have mul1 : opMul (.int b) (.int 39373) = some (.int (b * 39373)) := by simp [opMul]
    have cl : -(2 : Int) ^ 64 < c ∧ c < 2 ^ 64 := by constructor <;> omega
    have mul2 : ∀ d : Int, opMul (.int c) (.int d) = some (.int (c * d)) := fun d => by
      have h1 : decide (c.natAbs < 2 ^ 64) = true := decide_eq_true (by omega)
      unfold opMul
      simp only [h1, Bool.true_or, ite_true]
    simp [i0, i1, l2_pv, opGt, mul1, opAdd, b1_pv, fInt, opMod, hb5, fs, j1, opDiv, mul2, h0]
    have nx := v.set (a := 0) (b := c) (by omega) hb3 (by omega)
    rw [nx.take]
    exact h _ _ (Int.emod_nonneg _ (by omega)) (Int.emod_lt_of_pos _ h0) nx
/-- one of a list or a tuple -/
theorem sat_some {l : Nat} {ps : List PyData} {S : Sto} {E : Str → Sto → Prop} {Q : Val → Sto → Prop} {x : PyData} (hx : x = .list ps ∨ x = .tuple ps) (v : Vat l S) (h0 : ps ≠ []) (h1 : ps.length < 1000000) (h : ∀ (p : PyData) S', p ∈ ps → Nx l S S' → Q (.pv p) S') : (F_law_some [.loc l, .pv x]  S).sat E Q := by
  unfold F_law_some
  refine sat_fun rfl ?_
  have hl : 0 < ps.length := List.length_pos_iff.mpr h0
  have ln : b1 fLen [.pv x] S = .ok (.pv (.int ps.length)) S := by rcases hx with rfl | rfl <;> simp [b1_pv, fLen]
  simp [ln]
  refine sat_under v (by omega) (by omega) fun r S' r0 r1 nx => ?_
  have hr : r.toNat < ps.length := by omega
  have ix : liftIx (.pv x) (.pv (.int r)) S' = .ok (.pv ps[r.toNat]) S' := by
    have e : L2.atI ps r = some ps[r.toNat] := by
      have h4 : r < (ps.length : Int) := by omega
      simp [L2.atI, L2.ixN, r0, h4, hr]
    rcases hx with rfl | rfl <;> simp [ix_pv, ixOf, e]
  simp [ix]
  rw [nx.take]
  exact h _ _ (List.getElem_mem hr) nx
theorem at_nat {ps : List PyData} {r : Int} (r0 : 0 ≤ r) (h : r < ps.length) : L2.atI ps r = some (ps[r.toNat]'(by omega)) := by
  have hr : r.toNat < ps.length := by omega
  simp [L2.atI, L2.ixN, r0, h, hr]
/-- a new draws' list -/
theorem Vat.new {S : Sto} {a b : Int} (ha : 0 ≤ a) (hb : 0 ≤ b) (h2 : b < 2 ^ 64) : Vat S.length (S ++ [.lst [.int a, .int b]]) := ⟨a, b, by simp, ha, hb, h2⟩
theorem sat_vat {ns : List Int} {k : Int} {S : Sto} {E : Str → Sto → Prop} {Q : Val → Sto → Prop} (hk : 0 ≤ k) (h : ∀ a b : Int, 0 ≤ a → 0 ≤ b → b < 2 ^ 64 → Q (.loc S.length) (S ++ [.lst [.int a, .int b]])) : (F_law_vat [.ro (ns.map .int), .pv (.int k)] S).sat E Q := by
  have p18 : opPow (.int 10) (.int 18) = some (.int 1000000000000000000) := by simp [opPow]
  have b0 : ∀ cell : Int, 0 ≤ (cell * 131071 + 8191 * k + 5) % 2147483629 + 1 := fun cell => by
    have := Int.emod_nonneg (cell * 131071 + 8191 * k + 5) (show (2147483629 : Int) ≠ 0 by decide)
    omega
  have b1' : ∀ cell : Int, (cell * 131071 + 8191 * k + 5) % 2147483629 + 1 < 2 ^ 64 := fun cell => by
    have := Int.emod_lt_of_pos (cell * 131071 + 8191 * k + 5) (show (0 : Int) < 2147483629 by decide)
    omega
  have lv : ∀ a b : Int, leave S.length (.loc S.length) (S ++ [.lst [.int a, .int b]]) = .ok (.loc S.length) (S ++ [.lst [.int a, .int b]]) := fun a b => by
    have e : (S ++ [Ob.lst [.int a, .int b]]).take (S.length + 1) = S ++ [Ob.lst [.int a, .int b]] := List.take_of_length_le (by simp)
    simp [leave, e]
  have m0 : opMul (.int 7919) (.int k) = some (.int (7919 * k)) := by simp [opMul]
  have m1 : ∀ cell : Int, opMul (.int cell) (.int 131071) = some (.int (cell * 131071)) := fun cell => by simp [opMul]
  have m2 : opMul (.int 8191) (.int k) = some (.int (8191 * k)) := by simp [opMul]
  unfold F_law_vat
  refine sat_fun rfl ?_
  have ln : b1 fLen [.ro (ns.map .int)] S = .ok (.pv (.int ns.length)) S := by simp [b1, fLen]
  by_cases hl : k < ns.length
  · have ix : liftIx (.ro (ns.map .int)) (.pv (.int k)) S = .ok (.pv (.int (ns[k.toNat]'(by omega)))) S := by
      have e := at_nat (ps := ns.map .int) hk (by simpa using hl)
      simp [liftIx, ixOf, e]
    simp only [List.map_cons, List.map_nil, List.replicate, List.cons_append, List.nil_append]
    simp [l2_pv, m0, opAdd, ln, opLt, hl, ix, b1_pv, fInt, fAbs, p18]
    obtain ⟨cell, hcell, hc⟩ : ∃ cell, cell = (if ns[k.toNat] < 0 then -ns[k.toNat] else ns[k.toNat]) ∧ 0 ≤ cell := ⟨_, rfl, by split <;> omega⟩
    rw [← hcell]
    by_cases hg : 1000000000000000000 ≤ cell
    · simp [l2_pv, opGe, hg, opAdd, b1_pv, fInt, opMod, m1, m2, lv]
      exact h _ _ hc (b0 _) (b1' _)
    · simp [l2_pv, opGe, hg, opAdd, b1_pv, fInt, opMod, m1, m2, lv]
      exact h _ _ (by decide) (b0 _) (b1' _)
  · simp only [List.map_cons, List.map_nil, List.replicate, List.cons_append, List.nil_append]
    simp [l2_pv, m0, opAdd, ln, opLt, hl, p18]
    obtain ⟨cell, hcell, hc⟩ : ∃ cell, cell = 7919 * k + 43 ∧ 0 ≤ cell := ⟨_, rfl, by omega⟩
    rw [← hcell]
    by_cases hg : 1000000000000000000 ≤ cell
    · simp [l2_pv, opGe, hg, opAdd, b1_pv, fInt, opMod, m1, m2, lv]
      exact h _ _ hc (b0 _) (b1' _)
    · simp [l2_pv, opGe, hg, opAdd, b1_pv, fInt, opMod, m1, m2, lv]
      exact h _ _ (by decide) (b0 _) (b1' _)

def cl (v : PyData) : Prop := v.canLay0 = true
theorem cl_all : ∀ {xs : List PyData}, PyData.canLayAll0 xs = true → ∀ x ∈ xs, cl x
  | [], _ => by simp
  | a :: r, h => by
    simp only [PyData.canLayAll0, Bool.and_eq_true] at h
    intro x hx
    rcases List.mem_cons.mp hx with e | e
    · rw [e]; exact h.1
    · exact cl_all h.2 x e
theorem cl_tup {xs : List PyData} (h : cl (.tuple xs)) : ∀ x ∈ xs, cl x := cl_all (by simpa [cl, PyData.canLay0] using h)
theorem tup_cl {xs : List PyData} (h : ∀ x ∈ xs, cl x) : PyData.canLayAll0 xs = true := by
  induction xs with
  | nil => rfl
  | cons a r ih =>
    simp only [PyData.canLayAll0, Bool.and_eq_true]
    exact ⟨h a List.mem_cons_self, ih fun x hx => h x (List.mem_cons_of_mem _ hx)⟩
theorem dp_tup {xs : List PyData} {x : PyData} (h : x ∈ xs) : x.depth ≤ PyData.depthAll xs := by
  induction xs with
  | nil => cases h
  | cons a r ih =>
    simp only [PyData.depthAll]
    rcases List.mem_cons.mp h with e | e
    · rw [e]; exact Nat.le_max_left _ _
    · exact Nat.le_trans (ih e) (Nat.le_max_right _ _)
theorem tup_dp {xs : List PyData} {n : Nat} (h : ∀ x ∈ xs, x.depth ≤ n) : PyData.depthAll xs ≤ n := by
  induction xs with
  | nil => exact Nat.zero_le _
  | cons a r ih =>
    simp only [PyData.depthAll]
    exact Nat.max_le.mpr ⟨h a List.mem_cons_self, ih fun x hx => h x (List.mem_cons_of_mem _ hx)⟩
@[simp] theorem dEnd_ret (n : Nat) (v : Val) (S : Sto) : dEnd n (.ret v S) = leave n v S := rfl
@[simp] theorem shp_int (i : Int) : shp (.int i) = true := rfl
@[simp] theorem shp_bool (i : Bool) : shp (.bool i) = true := rfl
@[simp] theorem eqv_int (i j : Int) : PyData.eqv (.int i) (.int j) = (i == j) := by simp [PyData.eqv]
@[simp] theorem eqv_bool (i j : Bool) : PyData.eqv (.bool i) (.bool j) = (i == j) := by simp [PyData.eqv]
@[simp] theorem opEq_int (i j : Int) : opEq (.int i) (.int j) = some (.bool (i == j)) := by simp [opEq]
@[simp] theorem opNe_int (i j : Int) : opNe (.int i) (.int j) = some (.bool (!(i == j))) := by simp [opNe]
def isB : PyData → Bool
  | .bool _ => true
  | _ => false
@[simp] theorem isB_none  : isB (.none) = false := rfl
@[simp] theorem isB_bool (b : Bool) : isB (.bool b) = true := rfl
@[simp] theorem isB_int (b : Int) : isB (.int b) = false := rfl
@[simp] theorem isB_str (b : Str) : isB (.str b) = false := rfl
@[simp] theorem isB_list (b : List PyData) : isB (.list b) = false := rfl
@[simp] theorem isB_tuple (b : List PyData) : isB (.tuple b) = false := rfl
@[simp] theorem isB_dict (b : List (PyData × PyData)) : isB (.dict b) = false := rfl
def isT : PyData → Bool
  | .tuple _ => true
  | _ => false
@[simp] theorem isT_none  : isT (.none) = false := rfl
@[simp] theorem isT_bool (b : Bool) : isT (.bool b) = false := rfl
@[simp] theorem isT_int (b : Int) : isT (.int b) = false := rfl
@[simp] theorem isT_str (b : Str) : isT (.str b) = false := rfl
@[simp] theorem isT_list (b : List PyData) : isT (.list b) = false := rfl
@[simp] theorem isT_tuple (b : List PyData) : isT (.tuple b) = true := rfl
@[simp] theorem isT_dict (b : List (PyData × PyData)) : isT (.dict b) = false := rfl
/-- isinstance(v, int) -/
def isI : PyData → Bool
  | .bool _ => true
  | .int _ => true
  | _ => false
@[simp] theorem isI_none  : isI (.none) = false := rfl
@[simp] theorem isI_bool (b : Bool) : isI (.bool b) = true := rfl
@[simp] theorem isI_int (b : Int) : isI (.int b) = true := rfl
@[simp] theorem isI_str (b : Str) : isI (.str b) = false := rfl
@[simp] theorem isI_list (b : List PyData) : isI (.list b) = false := rfl
@[simp] theorem isI_tuple (b : List PyData) : isI (.tuple b) = false := rfl
@[simp] theorem isI_dict (b : List (PyData × PyData)) : isI (.dict b) = false := rfl
theorem isi_b {v : PyData} {S : Sto} (hv : cl v) : isiF "bool" (.pv v) S = .ok (.pv (.bool (isB v))) S := by
  cases v with
  | dict i => simp [cl, PyData.canLay0] at hv
  | _ => simp [isiF, tyName, isTy]
theorem isi_t {v : PyData} {S : Sto} (hv : cl v) : isiF "tuple" (.pv v) S = .ok (.pv (.bool (isT v))) S := by
  cases v with
  | dict i => simp [cl, PyData.canLay0] at hv
  | _ => simp [isiF, tyName, isTy]
theorem isi_i {v : PyData} {S : Sto} (hv : cl v) : isiF "int" (.pv v) S = .ok (.pv (.bool (isI v))) S := by
  cases v with
  | dict i => simp [cl, PyData.canLay0] at hv
  | _ => simp [isiF, tyName, isTy]
def pIsW : PyData → Int → Int → Bool
  | .int i, l, h => decide (l ≤ i) && decide (i ≤ h)
  | _, _, _ => false
theorem e_whole {v : PyData} {l h : Int} {S : Sto} (hv : cl v) : F_p_is_whole [.pv v, .pv (.int l), .pv (.int h)] S = .ok (.pv (.bool (pIsW v l h))) S := by
  unfold F_p_is_whole dFun
  cases v with
  | int i => by_cases h1 : l ≤ i <;> simp [isi_i hv, isi_b hv, l2_pv, opLe, pIsW, h1]
  | _ => simp [isi_i hv, isi_b hv, pIsW]
def pMove : PyData → Int → Bool
  | .tuple [a, b], n => pIsW a 0 (n - 1) && isB b
  | _, _ => false
theorem e_move {v : PyData} {n : Int} {S : Sto} (hv : cl v) : F_p_is_move [.pv v, .pv (.int n)] S = .ok (.pv (.bool (pMove v n))) S := by
  unfold F_p_is_move dFun
  cases v with
  | tuple xs =>
    match xs, hv with
    | [], hv => simp [isi_t hv, b1_pv, fLen, l2_pv, pMove]
    | [a], hv => simp [isi_t hv, b1_pv, fLen, l2_pv, pMove]
    | [a, b], hv =>
      have ha := cl_tup hv a (by simp)
      have hb := cl_tup hv b (by simp)
      cases hw : pIsW a 0 (n - 1) <;> simp [isi_t hv, b1_pv, fLen, l2_pv, pMove, ix_pv, ixOf, L2.atI, L2.ixN, opSub, e_whole ha, hw, isi_b hb]
    | a :: b :: c :: r, hv =>
      have h : ((r.length : Int) + 1 + 1 + 1 == 2) = false := by simp; omega
      simp [isi_t hv, b1_pv, fLen, l2_pv, pMove, h]
  | _ => simp [isi_t hv, pMove]
/-- a filter -/
theorem lc_filter {i : Nat} {T : DT} {ρ : En} {S : Sto} {f : PyData → Bool} (hi : i < ρ.length) : ∀ (xs : List PyData) (acc : List PyData), (∀ x ∈ xs, T (ρ.set i (some (.pv x))) S = .ok (f x) S) → acc.length + xs.length ≤ 16777216 →
    loopC (gN i) T (dNm i) ρ (xs.map .pv) acc S = .ok (.pv (.list (acc ++ xs.filter f))) S
  | [], acc, _, _ => by simp [loopC]
  | x :: xs, acc, h, hz => by
    have ih := fun acc h2 => lc_filter hi xs acc (fun y hy => h y (List.mem_cons_of_mem _ hy)) h2
    have hx := h x List.mem_cons_self
    have sz : szOk (acc.length + 1) = true := decide_eq_true (by simp at hz; omega)
    simp only [List.map_cons, loopC, ap_gN, hx]
    cases hf : f x with
    | false => simp only [List.filter_cons, hf]; exact ih acc (by simp at hz ⊢; omega)
    | true =>
      have nm : dNm i (ρ.set i (some (.pv x))) S = .ok (.pv x) S := by simp [List.getElem?_set_self hi]
      simp only [nm, sz, ite_true]
      rw [ih (acc ++ [x]) (by simp at hz ⊢; omega)]
      simp [List.filter_cons, hf]
theorem eqv_nil (xs : List PyData) : PyData.eqv (.list xs) (.list []) = xs.isEmpty := by cases xs <;> simp [PyData.eqv, PyData.eqvAll]
theorem shp_of {v : PyData} (h : cl v) (d : v.depth ≤ 64) : shp v = true := by simp only [shp, SeqAt.shaped, Bool.and_eq_true, decide_eq_true_eq]; exact ⟨h, d⟩
theorem shp_filter {xs : List PyData} (f : PyData → Bool) (h : ∀ x ∈ xs, cl x) (d : PyData.depthAll xs ≤ 63) : shp (.list (xs.filter f)) = true :=
  shp_of (tup_cl (xs := xs.filter f) fun x hx => h x (List.mem_filter.mp hx).1) (by
    show PyData.depthAll (xs.filter f) + 1 ≤ 64
    have := tup_dp (xs := xs.filter f) (n := 63) fun x hx => Nat.le_trans (dp_tup (List.mem_filter.mp hx).1) d
    omega)
theorem shp_nil : shp (.list []) = true := rfl
theorem filt_all (xs : List PyData) (f : PyData → Bool) : (xs.filter fun x => !f x).isEmpty = xs.all f := by
  induction xs with
  | nil => rfl
  | cons a r ih => cases h : f a <;> simp [h, ih]
/-- [x for x in v if not f(x)] == [] -/
def pRow : PyData → Int → Bool
  | .tuple [a, b, .tuple ms], n => pIsW a 0 6 && isB b && (ms.length == 4) && ms.all fun m => pMove m n
  | _, _ => false
theorem e_row {v : PyData} {n : Int} {S : Sto} (hv : cl v) (hd : v.depth ≤ 60) : F_p_is_row [.pv v, .pv (.int n)] S = .ok (.pv (.bool (pRow v n))) S := by
  unfold F_p_is_row dFun
  cases v with
  | tuple xs =>
    match xs, hv with
    | [], hv => simp [isi_t hv, b1_pv, fLen, l2_pv, pRow]
    | [a], hv => simp [isi_t hv, b1_pv, fLen, l2_pv, pRow]
    | [a, b], hv => simp [isi_t hv, b1_pv, fLen, l2_pv, pRow]
    | a :: b :: c :: d :: r, hv =>
      have h : ((r.length : Int) + 1 + 1 + 1 + 1 == 3) = false := by simp; omega
      simp [isi_t hv, b1_pv, fLen, l2_pv, pRow, h]
    | [a, b, c], hv =>
      have ha := cl_tup hv a (by simp)
      have hb := cl_tup hv b (by simp)
      have hc := cl_tup hv c (by simp)
      cases hw : pIsW a 0 6 with
      | false => cases c <;> simp [isi_t hv, b1_pv, fLen, l2_pv, pRow, ix_pv, ixOf, L2.atI, L2.ixN, e_whole ha, hw]
      | true =>
        cases hbb : isB b with
        | false => cases c <;> simp [isi_t hv, b1_pv, fLen, l2_pv, pRow, ix_pv, ixOf, L2.atI, L2.ixN, e_whole ha, hw, isi_b hb, hbb]
        | true =>
          cases c with
          | tuple ms =>
            by_cases h4 : ms.length = 4
            · have hms := cl_tup hc
              have hdm : PyData.depthAll ms ≤ 59 := by
                have := dp_tup (xs := [a, b, .tuple ms]) (x := .tuple ms) (by simp)
                simp only [PyData.depth] at hd this
                omega
              have lf := lc_filter (i := 2) (ρ := [some (.pv (.tuple [a, b, .tuple ms])), some (.pv (.int n)), none]) (S := S) (T := dNotT (dTst (dCall F_p_is_move (dCons (dNm 2) (dCons (dNm 1) dNil))))) (f := fun m => !pMove m n) (by simp) ms []
                (fun x hx => by simp [e_move (hms x hx)]) (by simp; omega)
              have s1 := shp_filter (fun m => !pMove m n) hms (by omega)
              simp [isi_t hv, isi_t hc, b1_pv, fLen, l2_pv, pRow, ix_pv, ixOf, L2.atI, L2.ixN, e_whole ha, hw, isi_b hb, hbb, h4, itemsOf, wipeE, lf, opEq, s1, shp_nil, eqv_nil, filt_all]
            · have h : ((ms.length : Int) == 4) = false := by simp; omega
              simp [isi_t hv, isi_t hc, b1_pv, fLen, l2_pv, pRow, ix_pv, ixOf, L2.atI, L2.ixN, e_whole ha, hw, isi_b hb, hbb, h, h4]
          | _ => simp [isi_t hv, isi_t hc, b1_pv, fLen, l2_pv, pRow, ix_pv, ixOf, L2.atI, L2.ixN, e_whole ha, hw, isi_b hb, hbb]
  | _ => simp [isi_t hv, pRow]
/-- a for that hands False back at the first that is not so -/
theorem loop_all {i : Nat} {B : DS} {ρ0 : En} {S : Sto} {f : PyData → Bool} : ∀ (xs : List PyData) (ρ : En), (ρ = ρ0 ∨ ∃ x, ρ = ρ0.set i (some x)) → (∀ x ∈ xs, B (ρ0.set i (some (.pv x))) S = if f x = true then .next (ρ0.set i (some (.pv x))) S else .ret (.pv (.bool false)) S) →
    ∃ ρ', (ρ' = ρ0 ∨ ∃ x, ρ' = ρ0.set i (some x)) ∧ loopF (gN i) B (xs.map .pv) ρ S = if xs.all f = true then .next ρ' S else .ret (.pv (.bool false)) S
  | [], ρ, h, _ => ⟨ρ, h, by simp [loopF]⟩
  | x :: xs, ρ, h, hb => by
    have e : ρ.set i (some (.pv x)) = ρ0.set i (some (.pv x)) := by
      rcases h with rfl | ⟨y, rfl⟩
      · rfl
      · rw [List.set_set]
    have hx := hb x List.mem_cons_self
    simp only [List.map_cons, loopF, ap_gN, e, hx]
    cases hf : f x with
    | false => exact ⟨ρ0, .inl rfl, by simp [hf]⟩
    | true =>
      obtain ⟨ρ', h1, h2⟩ := loop_all xs (ρ0.set i (some (.pv x))) (.inr ⟨_, rfl⟩) fun y hy => hb y (List.mem_cons_of_mem _ hy)
      exact ⟨ρ', h1, by simp [hf, h2]⟩
/-- the first row's first number -/
def p00 (rs : List PyData) : Option PyData := match rs with
  | .tuple (x :: _) :: _ => some x
  | _ => none
def pStage : PyData → Bool
  | .tuple [a, .tuple rs] => pIsW a 0 2 && decide (1 ≤ rs.length) && decide (rs.length ≤ 6) && (rs.all fun r => pRow r rs.length) && (match p00 rs with
    | some (.int i) => i == 0
    | _ => false)
  | _ => false
theorem row_head {r : PyData} {n : Int} (h : pRow r n = true) : ∃ i b ms, r = .tuple [.int i, b, .tuple ms] ∧ 0 ≤ i ∧ i ≤ 6 := by
  unfold pRow at h
  split at h
  · rename_i a b ms n'
    simp only [Bool.and_eq_true] at h
    have h1 := h.1.1.1
    unfold pIsW at h1
    split at h1
    · rename_i i l h'
      simp only [Bool.and_eq_true, decide_eq_true_eq] at h1
      exact ⟨_, _, _, rfl, h1.1, h1.2⟩
    · cases h1
  · cases h
theorem e_stage {v : PyData} {S : Sto} (hv : cl v) (hd : v.depth ≤ 60) : F_p_has_stage [.pv v] S = .ok (.pv (.bool (pStage v))) S := by
  unfold F_p_has_stage dFun
  cases v with
  | tuple xs =>
    match xs, hv with
    | [], hv => simp [isi_t hv, b1_pv, fLen, l2_pv, pStage]
    | [a], hv => simp [isi_t hv, b1_pv, fLen, l2_pv, pStage]
    | a :: b :: c :: r, hv =>
      have h : ((r.length : Int) + 1 + 1 + 1 == 2) = false := by simp; omega
      simp [isi_t hv, b1_pv, fLen, l2_pv, pStage, h]
    | [a, b], hv =>
      have ha := cl_tup hv a (by simp)
      have hb := cl_tup hv b (by simp)
      cases hw : pIsW a 0 2 with
      | false => cases b <;> simp [isi_t hv, b1_pv, fLen, l2_pv, pStage, ix_pv, ixOf, L2.atI, L2.ixN, e_whole ha, hw]
      | true =>
        cases b with
        | tuple rs =>
          have hrs := cl_tup hb
          have hdr : PyData.depthAll rs ≤ 59 := by
            have := dp_tup (xs := [a, .tuple rs]) (x := .tuple rs) (by simp)
            simp only [PyData.depth] at hd this
            omega
          by_cases h1 : 1 ≤ rs.length
          · by_cases h6 : rs.length ≤ 6
            · have lf := lc_filter (i := 1) (ρ := [some (.pv (.tuple [a, .tuple rs])), none]) (S := S) (T := dNotT (dTst (dCall F_p_is_row (dCons (dNm 1) (dCons (dCall (b1 fLen) (dCons (dIx (dNm 0) (dC (.int 1))) dNil)) dNil))))) (f := fun m => !pRow m rs.length) (by simp) rs []
                (fun x hx => by simp [ix_pv, ixOf, L2.atI, L2.ixN, b1_pv, fLen, e_row (hrs x hx) (Nat.le_trans (dp_tup hx) (by omega))]) (by simp; omega)
              have s1 := shp_filter (fun m => !pRow m rs.length) hrs (by omega)
              have h1' : (1 : Int) ≤ rs.length := by omega
              have h6' : (rs.length : Int) ≤ 6 := by omega
              cases hm : rs.all fun m => pRow m rs.length with
              | false => simp [isi_t hv, isi_t hb, b1_pv, fLen, l2_pv, pStage, ix_pv, ixOf, L2.atI, L2.ixN, e_whole ha, hw, opLe, h1, h6, h1', h6', itemsOf, wipeE, lf, opNe, s1, shp_nil, eqv_nil, filt_all, hm]
              | true =>
                have hne : rs ≠ [] := by intro e; rw [e] at h1; simp at h1
                obtain ⟨r0, rr, ers⟩ := List.exists_cons_of_ne_nil hne
                obtain ⟨i, b, ms, er, _, _⟩ := row_head (List.all_eq_true.mp hm r0 (by rw [ers]; exact List.mem_cons_self))
                have at0 : ixOf (.tuple rs) (.int 0) = some (.tuple [.int i, b, .tuple ms]) := by rw [ers, er]; simp [ixOf, L2.atI, L2.ixN]
                have p0 : p00 rs = some (.int i) := by rw [ers, er]; rfl
                have i0 : ixOf (.tuple [.int i, b, .tuple ms]) (.int 0) = some (.int i) := by simp [ixOf, L2.atI, L2.ixN]
                have x0 : ixOf (.tuple [a, .tuple rs]) (.int 0) = some a := by simp [ixOf, L2.atI, L2.ixN]
                have x1 : ixOf (.tuple [a, .tuple rs]) (.int 1) = some (.tuple rs) := by simp [ixOf, L2.atI, L2.ixN]
                simp [isi_t hv, isi_t hb, b1_pv, fLen, l2_pv, pStage, ix_pv, x0, x1, e_whole ha, hw, opLe, h1, h6, h1', h6', itemsOf, wipeE, lf, opNe, s1, shp_nil, eqv_nil, filt_all, hm, at0, i0, p0]
            · have h6' : ¬ (rs.length : Int) ≤ 6 := by omega
              have h1' : (1 : Int) ≤ rs.length := by omega
              simp [isi_t hv, isi_t hb, b1_pv, fLen, l2_pv, pStage, ix_pv, ixOf, L2.atI, L2.ixN, e_whole ha, hw, opLe, h1, h6, h1', h6']
          · have h1' : ¬ (1 : Int) ≤ rs.length := by omega
            simp [isi_t hv, isi_t hb, b1_pv, fLen, l2_pv, pStage, ix_pv, ixOf, L2.atI, L2.ixN, e_whole ha, hw, opLe, h1, h1']
        | _ => simp [isi_t hv, isi_t hb, b1_pv, fLen, l2_pv, pStage, ix_pv, ixOf, L2.atI, L2.ixN, e_whole ha, hw]
  | _ => simp [isi_t hv, pStage]
theorem rng_ok {j : Int} {S : Sto} (h0 : 0 ≤ j) (h1 : j < 1000000) : rngOf 0 j S = .ok ((List.range j.toNat).map fun i => Val.pv (.int (i : Nat))) S := by
  have c : (decide (-(2 ^ 62) ≤ (0 : Int)) && decide ((0 : Int) < 2 ^ 62) && decide (-(2 ^ 62) ≤ j) && decide (j < 2 ^ 62)) = true := by
    simp only [Bool.and_eq_true, decide_eq_true_eq]
    refine ⟨⟨⟨by decide, by decide⟩, ?_⟩, ?_⟩ <;> omega
  rw [rngOf_eq]
  unfold rngRaw
  rw [if_pos c]
  simp
theorem lc_map {i : Nat} {A : DE} {ρ : En} {S : Sto} {α : Type} {f g : α → PyData} : ∀ (xs : List α) (acc : List PyData), (∀ x ∈ xs, A (ρ.set i (some (.pv (f x)))) S = .ok (.pv (g x)) S) → acc.length + xs.length ≤ 16777216 →
    loopC (gN i) dYes A ρ (xs.map fun x => .pv (f x)) acc S = .ok (.pv (.list (acc ++ xs.map g))) S
  | [], acc, _, _ => by simp [loopC]
  | x :: xs, acc, h, hz => by
    have hx := h x List.mem_cons_self
    have sz : szOk (acc.length + 1) = true := decide_eq_true (by simp at hz; omega)
    simp only [List.map_cons, loopC, ap_gN, ap_Yes, hx, sz, ite_true]
    rw [lc_map xs (acc ++ [g x]) (fun y hy => h y (List.mem_cons_of_mem _ hy)) (by simp at hz ⊢; omega)]
    simp
def qGive (p h g f : Int) : PyData := .tuple [.int (if f = 1 ∧ 0 < h then (if h + g - 1 < p then h + g - 1 else p) else (if h + g < p then h + g else p)), .bool (decide (f = 1 ∧ 0 < h))]
def qRow (p s h : Int) : PyData := .tuple [.int h, .bool (decide (h + s ≤ p)), .tuple [qGive p h 0 0, qGive p h 0 1, qGive p h 1 0, qGive p h 1 1]]
theorem b2m {f : Int → Int → Int} {i j : Int} {S : Sto} : b2 f [.pv (.int i), .pv (.int j)] S = .ok (.pv (.int (f i j))) S := rfl
def qStage (p s l : Int) : PyData := .tuple [.int l, .tuple ((List.range (p + 1).toNat).map fun h => qRow p s (h : Nat))]
theorem qrow_law {p s h : Int} (h0 : 0 ≤ h) (h1 : h ≤ p) (hp : 1 ≤ p) : PyData.tuple [.int h, .bool (decide (h ≤ p - s)), .tuple [.tuple [.int h, .bool false], .tuple [.int (if h - 1 > 0 then h - 1 else 0), .bool (decide (0 < h))], .tuple [.int (if h + 1 < p then h + 1 else p), .bool false], .tuple [.int (if h > 1 then h else 1), .bool (decide (0 < h))]]] = qRow p s h := by
  unfold qRow qGive
  have e1 : decide (h ≤ p - s) = decide (h + s ≤ p) := by
    by_cases c : h ≤ p - s
    · rw [decide_eq_true c, decide_eq_true (by omega)]
    · rw [decide_eq_false c, decide_eq_false (by omega)]
  rw [e1]
  by_cases hp0 : 0 < h
  · simp [hp0]
    refine ⟨?_, ?_, ?_⟩ <;> (first | omega | (intros; omega) | (split <;> omega) | (split <;> split <;> omega))
  · have : h = 0 := by omega
    subst this
    simp <;> (first | omega | (intros; omega) | (split <;> omega))
theorem sat_lqueue {p s l : Int} {S : Sto} {E : Str → Sto → Prop} {Q : Val → Sto → Prop} (hp : 1 ≤ p ∧ p ≤ 100) (h : Q (.pv (qStage p s l)) S) : (F_law_queue [.pv (.int p), .pv (.int s), .pv (.int l)] S).sat E Q := by
  unfold F_law_queue
  refine sat_fun rfl ?_
  have rg : ∀ S', rngOf 0 (p + 1) S' = .ok ((List.range (p + 1).toNat).map fun i => Val.pv (.int (i : Nat))) S' := fun S' => rng_ok (by omega) (by omega)
  simp [l2_pv, opAdd, rg]
  have key := sat_for (E := fun c S1 => E c (S1.take S.length)) (I := fun i ρ S' => ∃ a b, ρ = [some (.pv (.int p)), some (.pv (.int s)), some (.pv (.int l)), some (.loc S.length), a, b] ∧ S' = S ++ [.lst ((List.range i).map fun h => qRow p s (h : Nat))])
    (g := gN 4) (B := dSeq (dSet 5 (dLst (dCons (dTup (dCons (dNm 4) (dCons (dC (.bool false)) dNil))) (dCons (dTup (dCons (dCall b2max (dCons (dC (.int 0)) (dCons (d2 opSub (dNm 4) (dC (.int 1))) dNil))) (dCons (d2 opGt (dNm 4) (dC (.int 0))) dNil))) dNil))))
  (dSeq (dSet 5 (d2 opAdd (dNm 5) (dLst (dCons (dTup (dCons (dCall b2min (dCons (dNm 0) (dCons (d2 opAdd (dNm 4) (dC (.int 1))) dNil))) (dCons (dC (.bool false)) dNil))) (dCons (dTup (dCons (dCall b2max (dCons (dC (.int 1)) (dCons (dNm 4) dNil))) (dCons (d2 opGt (dNm 4) (dC (.int 0))) dNil))) dNil)))))
  (dDo (dApp (dNm 3) (dTup (dCons (dNm 4) (dCons (d2 opLe (dNm 4) (d2 opSub (dNm 0) (dNm 1))) (dCons (dCall (b1 fTuple) (dCons (dNm 5) dNil)) dNil))))))))
    (D := { n := fun ρ S1 => ((dRet (dTup (dCons (dNm 2) (dCons (dCall (b1 fTuple) (dCons (dNm 3) dNil)) dNil)))) ρ S1).sat (fun c S1 => E c (S1.take S.length)) { n := fun ρ S1 => (leave S.length (.pv .none) S1).sat E Q, r := fun v S1 => (leave S.length v S1).sat E Q }, r := fun v S1 => (leave S.length v S1).sat E Q })
    (xs := (List.range (p + 1).toNat).map fun i => Val.pv (.int (i : Nat))) (fun i x ρ S' hx ⟨a, b, er, es⟩ => ?_) (fun ρ S' ⟨a, b, er, es⟩ => ?_) 0 [some (.pv (.int p)), some (.pv (.int s)), some (.pv (.int l)), some (.loc S.length), none, none] (S ++ [.lst []]) (Nat.zero_le _) ⟨none, none, rfl, rfl⟩
  · simpa using key
  · have hi : i < (p + 1).toNat := by
      have := (List.getElem?_eq_some_iff.mp hx).1
      simpa using this
    have ex : x = .pv (.int (i : Nat)) := by
      rw [List.getElem?_map, List.getElem?_range hi] at hx
      simpa using hx.symm
    subst ex er es
    have hl : (S ++ [Ob.lst ((List.range i).map fun h => qRow p s (h : Nat))])[S.length]? = some (.lst ((List.range i).map fun h => qRow p s (h : Nat))) := by simp
    have la : lstAt (.loc S.length) (S ++ [Ob.lst ((List.range i).map fun h => qRow p s (h : Nat))]) = true := by simp [lstAt]
    have st : ∀ o, (S ++ [Ob.lst ((List.range i).map fun h => qRow p s (h : Nat))]).set S.length o = S ++ [o] := fun o => by simp
    have zz : i ≤ 16777215 := by omega
    have e := qrow_law (p := p) (s := s) (h := (i : Nat)) (by omega) (by omega) hp.1
    refine ⟨_, rfl, ?_⟩
    simp [l2_pv, opSub, opAdd, opGt, opLe, b2max, b2min, b2m, b1_pv, fTuple, la, fApp, zz]
    rw [List.range_succ, List.map_append, List.map_cons, List.map_nil, ← e]
    simp
  · subst er es
    have gr : Val.getR (.loc S.length) (S ++ [Ob.lst ((List.range (p + 1).toNat).map fun h => qRow p s (h : Nat))]) = some (.list ((List.range (p + 1).toNat).map fun h => qRow p s (h : Nat))) := by simp [Val.getR, Val.get]
    simp [b1, gr, fTuple]
    exact h

mutual
/-- good in size: n more than at the start -/
def vb (n : Nat) : PyData → Bool
  | .none => true
  | .bool _ => true
  | .int i => decide (i.natAbs ≤ 10 ^ 31 + n)
  | .str z => (PyData.str z).canLay0
  | .list xs => decide (xs.length ≤ 20 + n) && vbs n xs
  | .tuple xs => decide (xs.length ≤ 20 + n) && vbs n xs
  | .dict _ => false
def vbs (n : Nat) : List PyData → Bool
  | [] => true
  | x :: xs => vb n x && vbs n xs
end
theorem vbs_iff {n : Nat} : ∀ {xs : List PyData}, vbs n xs = true ↔ ∀ x ∈ xs, vb n x = true
  | [] => by simp [vbs]
  | x :: xs => by simp [vbs, vbs_iff (xs := xs)]
theorem vb_tup {n : Nat} {xs : List PyData} : vb n (.tuple xs) = true ↔ xs.length ≤ 20 + n ∧ ∀ x ∈ xs, vb n x = true := by simp [vb, vbs_iff]
theorem vb_lst {n : Nat} {xs : List PyData} : vb n (.list xs) = true ↔ xs.length ≤ 20 + n ∧ ∀ x ∈ xs, vb n x = true := by simp [vb, vbs_iff]
mutual
theorem vb_cl {n : Nat} : ∀ {v : PyData}, vb n v = true → v.canLay0 = true
  | .none, _ => rfl
  | .bool _, _ => rfl
  | .int _, _ => rfl
  | .str _, h => h
  | .list xs, h => by simp only [vb, Bool.and_eq_true] at h; exact vbs_cl h.2
  | .tuple xs, h => by simp only [vb, Bool.and_eq_true] at h; exact vbs_cl h.2
  | .dict _, h => by simp [vb] at h
theorem vbs_cl {n : Nat} : ∀ {xs : List PyData}, vbs n xs = true → PyData.canLayAll0 xs = true
  | [], _ => rfl
  | x :: xs, h => by
    simp only [vbs, Bool.and_eq_true] at h
    simp only [PyData.canLayAll0, Bool.and_eq_true]
    exact ⟨vb_cl h.1, vbs_cl h.2⟩
end
mutual
theorem vb_up {n m : Nat} (hm : n ≤ m) : ∀ {v : PyData}, vb n v = true → vb m v = true
  | .none, _ => rfl
  | .bool _, _ => rfl
  | .int i, h => by simp only [vb, decide_eq_true_eq] at h ⊢; omega
  | .str _, h => h
  | .list xs, h => by simp only [vb, Bool.and_eq_true, decide_eq_true_eq] at h ⊢; exact ⟨by omega, vbs_up hm h.2⟩
  | .tuple xs, h => by simp only [vb, Bool.and_eq_true, decide_eq_true_eq] at h ⊢; exact ⟨by omega, vbs_up hm h.2⟩
  | .dict _, h => by simp [vb] at h
theorem vbs_up {n m : Nat} (hm : n ≤ m) : ∀ {xs : List PyData}, vbs n xs = true → vbs m xs = true
  | [], _ => rfl
  | x :: xs, h => by
    simp only [vbs, Bool.and_eq_true] at h ⊢
    exact ⟨vb_up hm h.1, vbs_up hm h.2⟩
end
/-- good: in size n, in depth d -/
def Gd (n d : Nat) (v : PyData) : Prop := vb n v = true ∧ v.depth ≤ d
theorem Gd.cl {n d : Nat} {v : PyData} (h : Gd n d v) : cl v := vb_cl h.1
theorem Gd.up {n d n' d' : Nat} {v : PyData} (h : Gd n d v) (h1 : n ≤ n') (h2 : d ≤ d') : Gd n' d' v := ⟨vb_up h1 h.1, Nat.le_trans h.2 h2⟩
theorem gd_tup {n d : Nat} {xs : List PyData} (hl : xs.length ≤ 20 + n) (h : ∀ x ∈ xs, Gd n d x) : Gd n (d + 1) (.tuple xs) := ⟨vb_tup.mpr ⟨hl, fun x hx => (h x hx).1⟩, Nat.succ_le_succ (tup_dp fun x hx => (h x hx).2)⟩
theorem gd_lst {n d : Nat} {xs : List PyData} (hl : xs.length ≤ 20 + n) (h : ∀ x ∈ xs, Gd n d x) : Gd n (d + 1) (.list xs) := ⟨vb_lst.mpr ⟨hl, fun x hx => (h x hx).1⟩, Nat.succ_le_succ (tup_dp fun x hx => (h x hx).2)⟩
theorem gd_mem {n d : Nat} {xs : List PyData} (h : Gd n d (.tuple xs)) : xs.length ≤ 20 + n ∧ ∀ x ∈ xs, Gd n (d - 1) x :=
  ⟨(vb_tup.mp h.1).1, fun x hx => ⟨(vb_tup.mp h.1).2 x hx, by
    have h1 := dp_tup hx
    have h2 : PyData.depthAll xs + 1 ≤ d := h.2
    omega⟩⟩
def mv0 : PyData := .tuple [.int 0, .bool false]
def rw0 : PyData := .tuple [.int 0, .bool true, .tuple [mv0, mv0, mv0, mv0]]
def odds : List PyData := [.none, .bool true, .bool false, .int 0, .int 1, .int 2, .int 7, .int (-1), .int (10 ^ 31), .str "", .str "late 0", .tuple [], .list [], .tuple [.bool true, .bool false], .tuple [.int 0, .bool false], .tuple [.int 0, .tuple []],
  .tuple [.tuple [.bool false, .bool false]], rw0, .tuple [.int 0, .tuple [rw0]]]
theorem odds_gd : ∀ v ∈ odds, Gd 0 5 v := by
  have h : (odds.all fun v => vb 0 v && decide (v.depth ≤ 5)) = true := by decide +kernel
  intro v hv
  have h2 := List.all_eq_true.mp h v hv
  simp only [Bool.and_eq_true, decide_eq_true_eq] at h2
  exact h2
theorem opAdd_int (i j : Int) : opAdd (.int i) (.int j) = some (.int (i + j)) := rfl
theorem cut_lo {xs : List PyData} {r : Nat} (h : r ≤ xs.length) : slOf none (some (r : Int)) (.tuple xs) = some (.tuple (xs.take r)) := by
  simp only [slOf, cutP, HT.sIx_nat, HT.sIx_none, List.drop_zero, Nat.sub_zero, Nat.min_eq_left h]
theorem cut_hi {xs : List PyData} {r : Nat} (h : r ≤ xs.length) : slOf (some (r : Int)) none (.tuple xs) = some (.tuple (xs.drop r)) := by
  simp only [slOf, cutP, HT.sIx_nat, HT.sIx_none, Nat.min_eq_left h]
  rw [List.take_of_length_le (by simp)]
theorem sat_seq {A B : DS} {ρ : En} {S : Sto} {E : Str → Sto → Prop} {D : Ws} (h : (A ρ S).sat E { D with n := fun ρ S => (B ρ S).sat E D }) : (dSeq A B ρ S).sat E D := by
  rw [ap_Seq, sat_nx]; exact h
theorem sat_ifs {T : DT} {A B : DS} {ρ : En} {S : Sto} {E : Str → Sto → Prop} {D : Ws} {R : Bool → Sto → Prop} (h : (T ρ S).sat E R) (h1 : ∀ S1, R true S1 → (A ρ S1).sat E D) (h2 : ∀ S1, R false S1 → (B ρ S1).sat E D) : (dIfS T A B ρ S).sat E D := by
  rw [ap_IfS, sat_s]
  refine h.imp (fun b S1 hb => ?_) fun _ _ z => z
  cases b with
  | true => exact h1 S1 hb
  | false => exact h2 S1 hb
theorem add_tup {xs ys : List PyData} (h : xs.length + ys.length ≤ 1000) : opAdd (.tuple xs) (.tuple ys) = some (.tuple (xs ++ ys)) := by
  have z : xs.length + ys.length ≤ 16777216 := by omega
  simp [opAdd, z]
theorem str_gd {i : Int} (h : i.natAbs ≤ 10 ^ 31 + 100) : fStr (.int i) = some (.str (toString i)) ∧ (PyData.str (toString i : String)).canLay0 = true := by
  constructor
  · have h2 : i.natAbs.log2 < 1920 := by
      by_cases z : i.natAbs = 0
      · rw [z]; decide
      · exact (Nat.log2_lt z).mpr (Nat.lt_of_le_of_lt h (by decide))
    simp [fStr, h2]
  · show PyData.strOk (Str.ofString (toString i)) = true
    rw [Str.ofString_eq_toList]
    simp only [PyData.strOk, List.all_toArray, List.all_map, List.all_eq_true, Function.comp_apply, decide_eq_true_eq]
    intro c _
    exact (by
      have := c.valid
      rcases this with z | ⟨_, z⟩
      · have : c.toNat < 0xd800 := z
        omega
      · exact z)
end Law
set_option maxHeartbeats 4000000
namespace Law
open PySem PySem.Spec PyProof.Rows L2 L2H LamX Mi
theorem sat_eq {α : Type} {r : Res α} {v : α} {S : Sto} (h : r.sat (fun _ _ => False) (fun a S' => a = v ∧ S' = S)) : r = .ok v S := by
  cases r with
  | ok a S' => obtain ⟨rfl, rfl⟩ := h; rfl
  | err c f S' => exact h.elim
  | bad => exact h.elim
theorem sat_of {α : Type} {r : Res α} {v : α} {S : Sto} {E : Str → Sto → Prop} {Q : α → Sto → Prop} (h : r = .ok v S) (q : Q v S) : r.sat E Q := by rw [h]; exact q
/-- a comprehension without draws -/
theorem lc_gen {α : Type} {g : DG} {T : DT} {A : DE} {ρ : En} {S : Sto} {val : α → Val} {keep : α → Bool} {out : α → PyData} : ∀ (items : List α) (acc : List PyData), (∀ a ∈ items, ∃ ρ1, g (val a) ρ = some ρ1 ∧ T ρ1 S = .ok (keep a) S ∧ (keep a = true → A ρ1 S = .ok (.pv (out a)) S)) → acc.length + items.length ≤ 16777216 →
    loopC g T A ρ (items.map val) acc S = .ok (.pv (.list (acc ++ (items.filter keep).map out))) S
  | [], acc, _, _ => by simp [loopC]
  | a :: r, acc, h, hz => by
    obtain ⟨ρ1, h1, h2, h3⟩ := h a List.mem_cons_self
    have ih := fun acc hz => lc_gen (S := S) r acc (fun b hb => h b (List.mem_cons_of_mem _ hb)) hz
    simp only [List.map_cons, loopC, h1, h2]
    cases hk : keep a with
    | false => simp only [List.filter_cons, hk]; exact ih acc (by simp at hz ⊢; omega)
    | true =>
      have sz : szOk (acc.length + 1) = true := decide_eq_true (by simp at hz; omega)
      simp only [h3 hk, sz, ite_true]
      rw [ih _ (by simp at hz ⊢; omega)]
      simp [List.filter_cons, hk]
/-- a comprehension of a plain name -/
theorem lc_gen' {α : Type} {g : DG} {T : DT} {A : DE} {ρ : En} {S : Sto} {val : α → Val} {keep : α → Bool} {out : α → PyData} (items : List α) {xs : List Val} (hx : xs = items.map val) (h : ∀ a ∈ items, ∃ ρ1, g (val a) ρ = some ρ1 ∧ T ρ1 S = .ok (keep a) S ∧ (keep a = true → A ρ1 S = .ok (.pv (out a)) S)) (hz : items.length ≤ 16777216) :
    loopC g T A ρ xs [] S = .ok (.pv (.list ((items.filter keep).map out))) S := by
  rw [hx]
  simpa using lc_gen items [] h (by simpa using hz)
theorem ix_tup (xs : List PyData) (n : Nat) : ixOf (.tuple xs) (.int (n : Nat)) = xs[n]? := by
  simp only [ixOf, L2.atI, L2.ixN]
  by_cases h : n < xs.length
  · simp [h]
  · simp [h]
theorem ix_lst (xs : List PyData) (n : Nat) : ixOf (.list xs) (.int (n : Nat)) = xs[n]? := by
  simp only [ixOf, L2.atI, L2.ixN]
  by_cases h : n < xs.length
  · simp [h]
  · simp [h]
theorem ix_tup0 (xs : List PyData) : ixOf (.tuple xs) (.int 0) = xs[0]? := ix_tup xs 0
theorem ix_tup1 (xs : List PyData) : ixOf (.tuple xs) (.int 1) = xs[1]? := ix_tup xs 1
theorem ix_tup2 (xs : List PyData) : ixOf (.tuple xs) (.int 2) = xs[2]? := ix_tup xs 2
theorem ix_tup3 (xs : List PyData) : ixOf (.tuple xs) (.int 3) = xs[3]? := ix_tup xs 3
theorem ix_lst0 (xs : List PyData) : ixOf (.list xs) (.int 0) = xs[0]? := ix_lst xs 0
theorem ix_lst1 (xs : List PyData) : ixOf (.list xs) (.int 1) = xs[1]? := ix_lst xs 1
theorem ix_lstL (xs : List PyData) : ixOf (.list xs) (.int (-1)) = xs.getLast? := by
  simp only [ixOf, L2.atI, L2.ixN]
  rw [List.getLast?_eq_getElem?]
  cases xs with
  | nil => simp
  | cons a r =>
    have h : (0 : Int) ≤ -1 + ((r.length : Int) + 1) := by omega
    have h2 : (-1 + ((r.length : Int) + 1)).toNat = r.length := by omega
    have h3 : -1 + ((r.length : Int) + 1) < (r.length : Int) + 1 := by omega
    simp
    first
      | (simp [h, h2, h3]; done)
      | (split <;> first | (simp_all; done) | omega)
theorem ix_tupL (xs : List PyData) : ixOf (.tuple xs) (.int (-1)) = xs.getLast? := ix_lstL xs
theorem mulL (xs : List PyData) (n : Nat) (h : n ≤ 1000) (h2 : xs.length ≤ 1000) : opMul (.list xs) (.int (n : Nat)) = some (.list (List.replicate n xs).flatten) := by
  have a1 : decide ((n : Int).natAbs < 2 ^ 63) = true := decide_eq_true (by omega)
  have a3 : szOk (xs.length * ((n : Int)).toNat) = true := decide_eq_true (by
    have e : ((n : Int)).toNat = n := rfl
    rw [e]
    exact Nat.le_trans (Nat.mul_le_mul h2 h) (by decide))
  simp only [opMul, a1, a3, Bool.and_self, ite_true]
  rfl
theorem mulT (xs : List PyData) (n : Nat) (h : n ≤ 1000) (h2 : xs.length ≤ 1000) : opMul (.tuple xs) (.int (n : Nat)) = some (.tuple (List.replicate n xs).flatten) := by
  have a1 : decide ((n : Int).natAbs ≤ 1000) = true := decide_eq_true (by omega)
  have a3 : decide (xs.length ≤ 1000) = true := decide_eq_true h2
  simp only [opMul, a1, a3, Bool.and_self, ite_true]
  rfl
theorem flat1 {α : Type} (a : α) : ∀ n : Nat, (List.replicate n [a]).flatten = List.replicate n a
  | 0 => rfl
  | n + 1 => by rw [List.replicate_succ, List.flatten_cons, flat1 a n]; rfl
theorem addT {xs ys : List PyData} (h : xs.length + ys.length ≤ 16777216) : opAdd (.tuple xs) (.tuple ys) = some (.tuple (xs ++ ys)) := by simp [opAdd, h]
theorem addL {xs ys : List PyData} (h : xs.length + ys.length ≤ 16777216) : opAdd (.list xs) (.list ys) = some (.list (xs ++ ys)) := by simp [opAdd, h]
theorem enum_zip (xs : List PyData) : xs.mapIdx enumP = xs.zipIdx.map fun p => enumP p.2 p.1 := by
  rw [List.mapIdx_eq_zipIdx_map]
/-- shared objects of one's own, behind S -/
def Pre (S S' : Sto) : Prop := S.length ≤ S'.length ∧ ∀ j, j < S.length → S'[j]? = S[j]?
theorem Pre.refl (S : Sto) : Pre S S := ⟨Nat.le_refl _, fun _ _ => rfl⟩
theorem Pre.trans {S S1 S2 : Sto} (a : Pre S S1) (b : Pre S1 S2) : Pre S S2 := ⟨Nat.le_trans a.1 b.1, fun j h => (b.2 j (Nat.lt_of_lt_of_le h a.1)).trans (a.2 j h)⟩
theorem Pre.app {S S' : Sto} (h : Pre S S') (xs : Sto) : Pre S (S' ++ xs) := ⟨by rw [List.length_append]; have := h.1; omega, fun j hj => by rw [List.getElem?_append_left (Nat.lt_of_lt_of_le hj h.1)]; exact h.2 j hj⟩
theorem Pre.set {S S' : Sto} (h : Pre S S') {j : Nat} (hj : S.length ≤ j) (o : Ob) : Pre S (S'.set j o) := ⟨by simpa using h.1, fun k hk => by rw [List.getElem?_set_ne (by omega)]; exact h.2 k hk⟩
theorem Pre.take {S S' : Sto} (h : Pre S S') : S'.take S.length = S := by
  refine List.ext_getElem? fun j => ?_
  by_cases hj : j < S.length
  · rw [List.getElem?_take_of_lt hj]; exact h.2 j hj
  · rw [List.getElem?_eq_none (by simp; omega), List.getElem?_eq_none (by omega)]
/-- two shared objects are changed -/
structure In2 (a b : Nat) (A B : List PyData) (S S' : Sto) : Prop where
  len : S'.length = S.length
  fa : S'[a]? = some (.lst A)
  fb : S'[b]? = some (.lst B)
  oth : ∀ j, j ≠ a → j ≠ b → S'[j]? = S[j]?
theorem In2.setA {a b : Nat} {A B A' : List PyData} {S S' : Sto} (h : In2 a b A B S S') (hab : a ≠ b) : In2 a b A' B S (S'.set a (.lst A')) :=
  ⟨by simp [h.len], by rw [List.getElem?_set_self (List.getElem?_eq_some_iff.mp h.fa).1], by rw [List.getElem?_set_ne hab]; exact h.fb, fun j h1 h2 => by rw [List.getElem?_set_ne (Ne.symm h1)]; exact h.oth j h1 h2⟩
theorem In2.setB {a b : Nat} {A B B' : List PyData} {S S' : Sto} (h : In2 a b A B S S') (hab : a ≠ b) : In2 a b A B' S (S'.set b (.lst B')) :=
  ⟨by simp [h.len], by rw [List.getElem?_set_ne (Ne.symm hab)]; exact h.fa, by rw [List.getElem?_set_self (List.getElem?_eq_some_iff.mp h.fb).1], fun j h1 h2 => by rw [List.getElem?_set_ne (Ne.symm h2)]; exact h.oth j h1 h2⟩
@[simp] theorem ap_ParL (is : List Nat) (As : DA) (ρ : En) (S : Sto) : dParL is As ρ S = (As ρ S).s ρ fun xs S1 => if xs.length = is.length ∧ szOk xs.length = true then .next (setA ρ is xs) S1 else .bad := rfl
@[simp] theorem ap_Enum (A : DE) (ρ : En) (S : Sto) : dEnum A ρ S = (A ρ S).bind fun x S1 => match psOf x with | some xs => .ok (xs.mapIdx enumP) S1 | none => .bad := rfl
@[simp] theorem ap_Zip (A B : DE) (ρ : En) (S : Sto) : dZip A B ρ S = (A ρ S).bind fun x S1 => (B ρ S1).bind fun y S2 => match x, y with
  | .pv (.list xs), .pv (.list ys) => .ok ((xs.zip ys).map fun p => Val.pv (.tuple [p.1, p.2])) S2
  | .pv (.tuple xs), .pv (.tuple ys) => .ok ((xs.zip ys).map fun p => Val.pv (.tuple [p.1, p.2])) S2
  | _, _ => .bad := rfl
@[simp] theorem ap_Rng2 (A B : DE) (ρ : En) (S : Sto) : dRng2 A B ρ S = (A ρ S).bind fun x S1 => (B ρ S1).bind fun y S2 => match x, y with
  | .pv (.int i), .pv (.int j) => rngOf i j S2
  | _, _ => .bad := by
  unfold dRng2
  cases A ρ S <;> rfl
theorem ps_t (xs : List PyData) : psOf (.pv (.tuple xs)) = some xs := rfl
theorem ps_l (xs : List PyData) : psOf (.pv (.list xs)) = some xs := rfl
/-- a for, all at once, with an invariant of turns -/
theorem for_inv {I : Nat → En → Sto → Prop} {g : DG} {B : DS} {E : Str → Sto → Prop} {D : Ws} {xs : List Val} {ρ : En} {S : Sto} (h0 : I 0 ρ S) (hs : ∀ i x ρ S, xs[i]? = some x → I i ρ S → ∃ ρ1, g x ρ = some ρ1 ∧ (B ρ1 S).sat E { n := I (i + 1), c := I (i + 1), b := D.n, r := D.r })
    (hd : ∀ ρ S, I xs.length ρ S → D.n ρ S) : (loopF g B xs ρ S).sat E D := by
  have := sat_for hs hd 0 ρ S (Nat.zero_le _) h0
  simpa using this
theorem app_pv {l : Nat} {p : PyData} {xs : List PyData} {S : Sto} (h : S[l]? = some (.lst xs)) (hz : xs.length < 16777216) : fApp [.loc l, .pv p] S = .ok (.pv .none) (S.set l (.lst (xs ++ [p]))) := by
  have : szOk (xs.length + 1) = true := decide_eq_true hz
  simp [fApp, h, this]
theorem lst_at {l : Nat} {xs : List PyData} {S : Sto} (h : S[l]? = some (.lst xs)) : lstAt (.loc l) S = true := by simp [lstAt, h]
theorem get_loc {l : Nat} {xs : List PyData} {S : Sto} (h : S[l]? = some (.lst xs)) : Val.get (.loc l) S = some (.list xs) := by simp [Val.get, h]
theorem getR_loc {l : Nat} {xs : List PyData} {S : Sto} (h : S[l]? = some (.lst xs)) : Val.getR (.loc l) S = some (.list xs) := by simp [Val.getR, Val.get, h]
theorem sat_then {A B : DS} {ρ : En} {S : Sto} {E : Str → Sto → Prop} {D : Ws} (R : En → Sto → Prop) (h : (A ρ S).sat E { D with n := R }) (h2 : ∀ ρ S, R ρ S → (B ρ S).sat E D) : (dSeq A B ρ S).sat E D := by
  rw [ap_Seq, sat_nx]
  revert h
  cases A ρ S with
  | next ρ1 S1 => exact fun h => h2 ρ1 S1 h
  | _ => exact fun h => h
theorem fil_true {α : Type} (l : List α) : (l.filter fun _ => true) = l := List.filter_eq_self.mpr (by simp)
theorem loop_nil {g : DG} {B : DS} {ρ : En} {S : Sto} {E : Str → Sto → Prop} {D : Ws} : (loopF g B [] ρ S).sat E D = D.n ρ S := rfl
theorem loop_step {g : DG} {B : DS} {x : Val} {xs : List Val} {ρ ρ1 : En} {S : Sto} {E : Str → Sto → Prop} {D : Ws} (R : En → Sto → Prop) (hg : g x ρ = some ρ1) (hb : (B ρ1 S).sat E { n := R, c := R, b := D.n, r := D.r }) (hn : ∀ ρ2 S2, R ρ2 S2 → (loopF g B xs ρ2 S2).sat E D) : (loopF g B (x :: xs) ρ S).sat E D := by
  simp only [loopF, hg]
  revert hb
  cases B ρ1 S with
  | next ρ2 S2 => exact fun h => hn _ _ h
  | cnt ρ2 S2 => exact fun h => hn _ _ h
  | brk ρ2 S2 => exact fun h => h
  | ret v S2 => exact fun h => h
  | err c f ρ2 S2 => exact fun h => h
  | bad => exact fun h => h
theorem loop_next {g : DG} {B : DS} {x : Val} {xs : List Val} {ρ ρ1 ρ2 : En} {S S2 : Sto} {E : Str → Sto → Prop} {D : Ws} (hg : g x ρ = some ρ1) (hb : B ρ1 S = .next ρ2 S2) (h : (loopF g B xs ρ2 S2).sat E D) : (loopF g B (x :: xs) ρ S).sat E D := by
  simp only [loopF, hg, hb]
  exact h
theorem sat_eqf {k n : Nat} {B : DS} {xs : List Val} {S : Sto} {v : Val} (hl : xs.length = k)
    (h : (B (xs.map some ++ List.replicate (n - k) none) S).sat (fun _ _ => False) { n := fun _ S1 => v = .pv .none ∧ S1.take S.length = S, r := fun x S1 => leave S.length x S1 = .ok v S }) : dFun k n B xs S = .ok v S := by
  unfold dFun
  rw [if_pos hl]
  revert h
  cases B (xs.map some ++ List.replicate (n - k) none) S with
  | next ρ S1 => rintro ⟨rfl, h⟩; simp [dEnd, leave, h]
  | ret x S1 => exact fun h => h
  | brk ρ2 S2 => exact fun h => h.elim
  | cnt ρ2 S2 => exact fun h => h.elim
  | err c f ρ2 S2 => exact fun h => h.elim
  | bad => exact fun h => h.elim

end Law
set_option maxHeartbeats 4000000
namespace Law
open PySem PySem.Spec PyProof.Rows L2 L2H LamX Mi
structure Row where
  held : Int
  says : Bool
  mv : List (Nat × Bool)
instance : Inhabited Row := ⟨⟨0, false, []⟩⟩
structure Stg where
  late : Nat
  rows : List Row
instance : Inhabited Stg := ⟨⟨0, []⟩⟩
abbrev St := Nat × List Bool
def eMv (m : Nat × Bool) : PyData := .tuple [.int (m.1 : Nat), .bool m.2]
def eRow (r : Row) : PyData := .tuple [.int r.held, .bool r.says, .tuple (r.mv.map eMv)]
def eStg (s : Stg) : PyData := .tuple [.int (s.late : Nat), .tuple (s.rows.map eRow)]
def eWs (ws : List Bool) : PyData := .tuple (ws.map .bool)
def eSt (t : St) : PyData := .tuple [.int (t.1 : Nat), eWs t.2]
def eBt (b : Bool × Bool) : PyData := .tuple [.bool b.1, .bool b.2]
structure WfR (n : Nat) (r : Row) : Prop where
  h0 : 0 ≤ r.held
  h6 : r.held ≤ 6
  m4 : r.mv.length = 4
  mv : ∀ m ∈ r.mv, m.1 < n
structure Wf (s : Stg) : Prop where
  late : s.late ≤ 2
  r1 : 1 ≤ s.rows.length
  r6 : s.rows.length ≤ 6
  rows : ∀ r ∈ s.rows, WfR s.rows.length r
  hd : (s.rows.headD default).held = 0
structure WfT (s : Stg) (t : St) : Prop where
  st : t.1 < s.rows.length
  ws : t.2.length = s.late
def Stg.row (s : Stg) (n : Nat) : Row := s.rows.getD n default
def gf (g f : Bool) : Nat := (if g then 2 else 0) + (if f then 1 else 0)
def Row.to (r : Row) (g f : Bool) : Nat × Bool := r.mv.getD (gf g f) default
def wordsOf (s : Stg) (t : St) : List Bool := t.2 ++ [(s.row t.1).says]
def reach (s : Stg) (t : St) : Bool := (wordsOf s t).headD false
def stepS (s : Stg) (t : St) (g f : Bool) : St × Bool := ((((s.row t.1).to g f).1, (wordsOf s t).tail), ((s.row t.1).to g f).2)
def b2i (b : Bool) : Int := if b then 1 else 0
/-- how a move goes wrong: from a to b -/
def faultS (s : Stg) (a b : Nat) (g f v : Bool) : Option Str :=
  if v && !f then some "pushed" else
  if (s.row b).held = (s.row a).held + b2i g - b2i v then none else if (s.row b).held < (s.row a).held + b2i g - b2i v then some "lost" else some "made"
def wrongS (s : Stg) (t : St) (g f : Bool) : Option Str := faultS s t.1 (stepS s t g f).1.1 g f (stepS s t g f).2
def beatsS (s : Stg) (t : St) : List (Bool × Bool) := if reach s t then [(false, false), (false, true), (true, false), (true, true)] else [(false, false), (false, true)]
def first (s : Stg) : St := (0, List.replicate s.late false)
def eOpt (o : Option Str) : PyData := match o with
  | some x => .str x
  | none => .none
theorem getRow {s : Stg} {n : Nat} (h : n < s.rows.length) : s.rows[n]? = some (s.row n) := by
  unfold Stg.row
  rw [List.getD_eq_getElem?_getD, List.getElem?_eq_getElem h]; rfl
theorem row_mem {s : Stg} {n : Nat} (h : n < s.rows.length) : s.row n ∈ s.rows := List.mem_of_getElem? (getRow h)
theorem Wf.row {s : Stg} (w : Wf s) {n : Nat} (h : n < s.rows.length) : WfR s.rows.length (s.row n) := w.rows _ (row_mem h)
theorem gf_lt (g f : Bool) : gf g f < 4 := by cases g <;> cases f <;> decide
theorem getMv {n : Nat} {r : Row} (w : WfR n r) (g f : Bool) : r.mv[gf g f]? = some (r.to g f) := by
  unfold Row.to
  rw [List.getD_eq_getElem?_getD, List.getElem?_eq_getElem (by rw [w.m4]; exact gf_lt g f)]; rfl
theorem to_lt {n : Nat} {r : Row} (w : WfR n r) (g f : Bool) : (r.to g f).1 < n := w.mv _ (List.mem_of_getElem? (getMv w g f))
theorem wfT_first {s : Stg} (w : Wf s) : WfT s (first s) := ⟨by have := w.r1; show 0 < _; omega, by simp [first]⟩
theorem words_len {s : Stg} {t : St} (h : WfT s t) : (wordsOf s t).length = s.late + 1 := by simp [wordsOf, h.ws]
theorem wfT_step {s : Stg} {t : St} (w : Wf s) (h : WfT s t) (g f : Bool) : WfT s (stepS s t g f).1 := ⟨to_lt (w.row h.st) g f, by simp [stepS, words_len h]⟩
theorem ix_stg {s : Stg} {S : Sto} : liftIx (.pv (eStg s)) (.pv (.int 1)) S = .ok (.pv (.tuple (s.rows.map eRow))) S := by rw [ix_pv]; simp [eStg, ix_tup1]
theorem ix_stg0 {s : Stg} {S : Sto} : liftIx (.pv (eStg s)) (.pv (.int 0)) S = .ok (.pv (.int (s.late : Nat))) S := by rw [ix_pv]; simp [eStg, ix_tup0]
theorem ix_row {s : Stg} {n : Nat} {S : Sto} (h : n < s.rows.length) : liftIx (.pv (.tuple (s.rows.map eRow))) (.pv (.int (n : Nat))) S = .ok (.pv (eRow (s.row n))) S := by
  rw [ix_pv, ix_tup, List.getElem?_map, getRow h]; rfl
theorem ix_row0 {r : Row} {S : Sto} : liftIx (.pv (eRow r)) (.pv (.int 0)) S = .ok (.pv (.int r.held)) S := by rw [ix_pv]; simp [eRow, ix_tup0]
theorem ix_row1 {r : Row} {S : Sto} : liftIx (.pv (eRow r)) (.pv (.int 1)) S = .ok (.pv (.bool r.says)) S := by rw [ix_pv]; simp [eRow, ix_tup1]
theorem ix_row2 {r : Row} {S : Sto} : liftIx (.pv (eRow r)) (.pv (.int 2)) S = .ok (.pv (.tuple (r.mv.map eMv))) S := by rw [ix_pv]; simp [eRow, ix_tup2]
theorem ix_mv {n : Nat} {r : Row} {S : Sto} (w : WfR n r) (g f : Bool) : liftIx (.pv (.tuple (r.mv.map eMv))) (.pv (.int (gf g f : Nat))) S = .ok (.pv (eMv (r.to g f))) S := by
  rw [ix_pv, ix_tup, List.getElem?_map, getMv w]; rfl
theorem ix_st0 {t : St} {S : Sto} : liftIx (.pv (eSt t)) (.pv (.int 0)) S = .ok (.pv (.int (t.1 : Nat))) S := by rw [ix_pv]; simp [eSt, ix_tup0]
theorem ix_st1 {t : St} {S : Sto} : liftIx (.pv (eSt t)) (.pv (.int 1)) S = .ok (.pv (eWs t.2)) S := by rw [ix_pv]; simp [eSt, ix_tup1]
theorem e_words {s : Stg} {t : St} {S : Sto} (w : Wf s) (h : WfT s t) : F_p_words_of [.pv (eStg s), .pv (eSt t)] S = .ok (.pv (eWs (wordsOf s t))) S := by
  have z := h.ws
  have z2 := w.late
  have ad : opAdd (eWs t.2) (.tuple [.bool (s.row t.1).says]) = some (eWs (wordsOf s t)) := by
    unfold eWs
    rw [addT (by simp; omega)]
    simp [wordsOf]
  unfold F_p_words_of dFun
  simp [ix_st1, ix_stg, ix_st0, ix_row h.st, ix_row1, l2_pv, ad]
theorem e_reached {s : Stg} {t : St} {S : Sto} (w : Wf s) (h : WfT s t) : F_p_reached [.pv (eStg s), .pv (eSt t)] S = .ok (.pv (.bool (reach s t))) S := by
  have z := words_len h
  unfold F_p_reached dFun
  simp [e_words w h, ix_pv, eWs, ix_tup0]
  unfold reach
  cases e : wordsOf s t with
  | nil => rw [e] at z; simp at z
  | cons a r => simp
theorem two_gf (g f : Bool) (S : Sto) : ((b1 fInt [.pv (.bool g)] S).bind fun x S1 => (lift2 opMul (.pv (.int 2)) x S1).bind fun y S2 => (b1 fInt [.pv (.bool f)] S2).bind fun z S3 => lift2 opAdd y z S3) = .ok (.pv (.int (gf g f : Nat))) S := by
  cases g <;> cases f <;> simp [b1_pv, fInt, l2_pv, opMul, opAdd, gf]
theorem e_step {s : Stg} {t : St} {g f : Bool} {S : Sto} (w : Wf s) (h : WfT s t) : F_p_step [.pv (eStg s), .pv (eSt t), .pv (.bool g), .pv (.bool f)] S = .ok (.pv (.tuple [eSt (stepS s t g f).1, .bool (stepS s t g f).2])) S := by
  have wr := w.row h.st
  have z := words_len h
  have z2 := w.late
  have hg : ∀ S' : Sto, (b1 fInt [.pv (.bool g)] S') = .ok (.pv (.int (b2i g))) S' := fun S' => by cases g <;> simp [b1_pv, fInt, b2i]
  have hf : ∀ S' : Sto, (b1 fInt [.pv (.bool f)] S') = .ok (.pv (.int (b2i f))) S' := fun S' => by cases f <;> simp [b1_pv, fInt, b2i]
  have hm : opMul (.int 2) (.int (b2i g)) = some (.int (2 * b2i g)) := by simp [opMul]
  have hs : (2 * b2i g + b2i f) = ((gf g f : Nat) : Int) := by cases g <;> cases f <;> rfl
  have sl : slOf (some 1) none (eWs (wordsOf s t)) = some (eWs (wordsOf s t).tail) := by
    unfold eWs
    have := cut_hi (xs := (wordsOf s t).map .bool) (r := 1) (by simp; omega)
    simpa using this
  unfold F_p_step dFun
  simp only [List.map_cons, List.map_nil, List.replicate, List.cons_append, List.nil_append, List.length_cons, List.length_nil, Nat.reduceSub, Nat.reduceAdd, ite_true]
  simp [ix_st0, ix_stg, ix_row h.st, ix_row2, l2_pv, hg, hf, hm, opAdd, hs, ix_mv wr, eMv, gT_ap, go_cons, go_nil, e_words w h, sl_pv, sl]
  exact ⟨rfl, rfl⟩
theorem int_eq {i j : Int} : (i == j) = decide (i = j) := by
  by_cases h : i = j <;> simp [h]
theorem e_wrong {s : Stg} {t : St} {g f : Bool} {S : Sto} (w : Wf s) (h : WfT s t) : F_p_wrong_word [.pv (eStg s), .pv (eSt t), .pv (.bool g), .pv (.bool f)] S = .ok (.pv (eOpt (wrongS s t g f))) S := by
  have h2 := wfT_step w h g f
  have hg : ∀ (g : Bool) (S' : Sto), (b1 fInt [.pv (.bool g)] S') = .ok (.pv (.int (b2i g))) S' := fun g S' => by cases g <;> simp [b1_pv, fInt, b2i]
  unfold F_p_wrong_word dFun
  simp only [List.map_cons, List.map_nil, List.replicate, List.cons_append, List.nil_append, List.length_cons, List.length_nil, Nat.reduceSub, Nat.reduceAdd, ite_true]
  obtain ⟨v, hv⟩ : ∃ v, (stepS s t g f).2 = v := ⟨_, rfl⟩
  have ew : wrongS s t g f = faultS s t.1 (stepS s t g f).1.1 g f v := by rw [wrongS, hv]
  rw [ew]
  simp only [ap_Seq, ap_As, ap_Call, ap_Cons, ap_Nm, ap_Nil, List.getElem?_cons_zero, List.getElem?_cons_succ, Res.bind_ok, e_step w h, Res.s_ok, gT_ap, go_cons, go_nil, ap_gN, Option.bind_some, SR.next?_next, List.set_cons_zero, List.set_cons_succ, hv]
  obtain ⟨b, hb⟩ : ∃ b, (s.row (stepS s t g f).1.1).held = b := ⟨_, rfl⟩
  obtain ⟨a, ha⟩ : ∃ a, (s.row t.1).held = a := ⟨_, rfl⟩
  have hx : ∀ S' : Sto, (d2 opAdd (d2 opSub (d2 opSub (dIx (dIx (dIx (dNm 0) (dC (.int 1))) (dIx (dNm 4) (dC (.int 0)))) (dC (.int 0))) (dIx (dIx (dIx (dNm 0) (dC (.int 1))) (dIx (dNm 1) (dC (.int 0)))) (dC (.int 0)))) (dCall (b1 fInt) (dCons (dNm 2) dNil))) (dCall (b1 fInt) (dCons (dNm 5) dNil)))
      [some (.pv (eStg s)), some (.pv (eSt t)), some (.pv (.bool g)), some (.pv (.bool f)), some (.pv (eSt (stepS s t g f).1)), some (.pv (.bool v)), none] S' = .ok (.pv (.int (b - a - b2i g + b2i v))) S' := fun S' => by
    simp [ix_stg, ix_st0, ix_row h.st, ix_row h2.st, ix_row0, l2_pv, hg, opSub, opAdd, ha, hb]
  have fin : ∀ S' : Sto, (dEnd S.length ((dSeq (dSet 6 (d2 opAdd (d2 opSub (d2 opSub (dIx (dIx (dIx (dNm 0) (dC (.int 1))) (dIx (dNm 4) (dC (.int 0)))) (dC (.int 0))) (dIx (dIx (dIx (dNm 0) (dC (.int 1))) (dIx (dNm 1) (dC (.int 0)))) (dC (.int 0)))) (dCall (b1 fInt) (dCons (dNm 2) dNil))) (dCall (b1 fInt) (dCons (dNm 5) dNil))))
      (dRet (dIf (dTst (d2 opEq (dNm 6) (dC (.int 0)))) (dC .none) (dIf (dTst (d2 opLt (dNm 6) (dC (.int 0)))) (dC (.str "lost")) (dC (.str "made"))))))
      [some (.pv (eStg s)), some (.pv (eSt t)), some (.pv (.bool g)), some (.pv (.bool f)), some (.pv (eSt (stepS s t g f).1)), some (.pv (.bool v)), none] S)) = .ok (.pv (eOpt (if b = a + b2i g - b2i v then none else if b < a + b2i g - b2i v then some "lost" else some "made"))) S := fun S' => by
    rw [ap_Seq, ap_Set, hx S]
    by_cases h1 : b = a + b2i g - b2i v
    · have z : b - a - b2i g + b2i v = 0 := by omega
      rw [if_pos h1]
      generalize b - a - b2i g + b2i v = x at z
      simp [l2_pv, eOpt, z]
    · have z : ¬ (b - a - b2i g + b2i v = 0) := by omega
      by_cases h3 : b < a + b2i g - b2i v
      · have z2 : b - a - b2i g + b2i v < 0 := by omega
        rw [if_neg h1, if_pos h3]
        generalize b - a - b2i g + b2i v = x at z z2
        simp [l2_pv, eOpt, opLt, z, z2]
      · have z2 : ¬ (b - a - b2i g + b2i v < 0) := by omega
        rw [if_neg h1, if_neg h3]
        generalize b - a - b2i g + b2i v = x at z z2
        simp [l2_pv, eOpt, opLt, z, z2]
  have fl : faultS s t.1 (stepS s t g f).1.1 g f v = (if v && !f then some (Str.ofString "pushed") else if b = a + b2i g - b2i v then none else if b < a + b2i g - b2i v then some (Str.ofString "lost") else some (Str.ofString "made") : Option Str) := by
    unfold faultS
    rw [ha, hb]
  rw [fl]
  cases hc : (v && !f) with
  | true =>
    obtain ⟨rfl, rfl⟩ : v = true ∧ f = false := by simpa using hc
    simp [eOpt]
  | false =>
    have e : ∀ (A B : DS), (dSeq (dIfS (dAndT (dTst (dNm 5)) (dNotT (dTst (dNm 3)))) A dPass) B) [some (.pv (eStg s)), some (.pv (eSt t)), some (.pv (.bool g)), some (.pv (.bool f)), some (.pv (eSt (stepS s t g f).1)), some (.pv (.bool v)), none] S = B [some (.pv (eStg s)), some (.pv (eSt t)), some (.pv (.bool g)), some (.pv (.bool f)), some (.pv (eSt (stepS s t g f).1)), some (.pv (.bool v)), none] S := fun A B => by
      cases v <;> cases f <;> simp at hc ⊢
    rw [← ap_Seq, e]
    rw [if_neg (by decide)]
    exact fin S
theorem e_first {s : Stg} {S : Sto} (w : Wf s) : F_p_first_state [.pv (eStg s)] S = .ok (.pv (eSt (first s))) S := by
  have z := w.late
  unfold F_p_first_state dFun
  simp [ix_stg0, l2_pv, mulT [.bool false] s.late (by omega) (by simp), flat1, first, eSt, eWs]
theorem e_beats {s : Stg} {t : St} {S : Sto} (w : Wf s) (h : WfT s t) : F_p_beats_of [.pv (eStg s), .pv (eSt t)] S = .ok (.pv (.list ((beatsS s t).map eBt))) S := by
  unfold F_p_beats_of dFun
  cases hr : reach s t <;> simp [e_reached w h, hr, beatsS, eBt, l2_pv, opAdd]

end Law
set_option maxHeartbeats 4000000
namespace Law
open PySem PySem.Spec PyProof.Rows L2 L2H LamX Mi
structure Inf where
  a : Nat
  b : Nat
  g : Bool
  f : Bool
  v : Bool
def WfC (cs : List Stg) : Prop := ∀ s ∈ cs, Wf s
def WfTs : List Stg → List St → Prop
  | [], [] => True
  | s :: ss, t :: ts => WfT s t ∧ WfTs ss ts
  | _, _ => False
def headFree : List Stg → List St → Bool → Bool
  | s :: _, t :: _, _ => reach s t
  | _, _, f => f
def goC : List Stg → List St → Bool → Bool → List (St × Inf)
  | s :: ss, t :: ts, g, f => ((stepS s t g (headFree ss ts f)).1, ⟨t.1, (stepS s t g (headFree ss ts f)).1.1, g, headFree ss ts f, (stepS s t g (headFree ss ts f)).2⟩) :: goC ss ts (stepS s t g (headFree ss ts f)).2 f
  | _, _, _, _ => []
def afterC (cs : List Stg) (ts : List St) (g f : Bool) : List St := (goC cs ts g f).map (·.1)
def infC (cs : List Stg) (ts : List St) (g f : Bool) : List Inf := (goC cs ts g f).map (·.2)
def lastV (g : Bool) : List Inf → Bool
  | [] => g
  | i :: is => lastV i.v is
def giveC (cs : List Stg) (ts : List St) (g f : Bool) : Bool := lastV g (infC cs ts g f)
def faultC : Nat → List Stg → List Inf → Option (Nat × Str)
  | k, s :: ss, i :: is => match faultS s i.a i.b i.g i.f i.v with
    | some w => some (k, w)
    | none => faultC (k + 1) ss is
  | _, _, _ => none
def wrongC (cs : List Stg) (ts : List St) (g f : Bool) : Option (Nat × Str) := faultC 0 cs (infC cs ts g f)
def freesC : List Stg → List St → Bool → List Bool
  | _ :: ss, _ :: ts, f => headFree ss ts f :: freesC ss ts f
  | _, _, _ => []
def firstC (cs : List Stg) : List St := cs.map first
def heldC : List Stg → List St → Int
  | s :: ss, t :: ts => (s.row t.1).held + heldC ss ts
  | _, _ => 0
def eCh (cs : List Stg) : PyData := .tuple (cs.map eStg)
def eTs (ts : List St) : PyData := .tuple (ts.map eSt)
def eWr : Option (Nat × Str) → PyData
  | none => .none
  | some (k, w) => .tuple [.int (k : Nat), .str w]
theorem WfTs.len : ∀ {cs : List Stg} {ts : List St}, WfTs cs ts → cs.length = ts.length
  | [], [], _ => rfl
  | _ :: _, _ :: _, h => by simp [WfTs.len h.2]
  | [], _ :: _, h => h.elim
  | _ :: _, [], h => h.elim
theorem wfTs_first : ∀ {cs : List Stg}, WfC cs → WfTs cs (firstC cs)
  | [], _ => trivial
  | s :: ss, h => ⟨wfT_first (h s List.mem_cons_self), wfTs_first fun x hx => h x (List.mem_cons_of_mem _ hx)⟩
theorem WfC.tl {s : Stg} {ss : List Stg} (h : WfC (s :: ss)) : WfC ss := fun x hx => h x (List.mem_cons_of_mem _ hx)
theorem WfC.hd {s : Stg} {ss : List Stg} (h : WfC (s :: ss)) : Wf s := h s List.mem_cons_self
theorem wfTs_after : ∀ {cs : List Stg} {ts : List St} {g f : Bool}, WfC cs → WfTs cs ts → WfTs cs (afterC cs ts g f)
  | [], [], _, _, _, _ => trivial
  | s :: ss, t :: ts, g, f, w, h => ⟨wfT_step w.hd h.1 _ _, wfTs_after w.tl h.2⟩
  | [], _ :: _, _, _, _, h => h.elim
  | _ :: _, [], _, _, _, h => h.elim
theorem goC_len : ∀ {cs : List Stg} {ts : List St} {g f : Bool}, WfTs cs ts → (goC cs ts g f).length = cs.length
  | [], [], _, _, _ => rfl
  | s :: ss, t :: ts, g, f, h => by simp [goC, goC_len h.2]
  | [], _ :: _, _, _, h => h.elim
  | _ :: _, [], _, _, h => h.elim
theorem WfTs.get : ∀ {cs : List Stg} {ts : List St} (i : Nat), WfTs cs ts → i < cs.length → ∃ s t, cs[i]? = some s ∧ ts[i]? = some t ∧ WfT s t ∧ s ∈ cs
  | s :: ss, t :: ts, 0, h, _ => ⟨s, t, rfl, rfl, h.1, List.mem_cons_self⟩
  | s :: ss, t :: ts, i + 1, h, hi => by
    obtain ⟨s', t', e1, e2, w, m⟩ := WfTs.get i h.2 (by simpa using hi)
    exact ⟨s', t', by simpa using e1, by simpa using e2, w, List.mem_cons_of_mem _ m⟩
  | [], [], _, _, hi => by simp at hi
  | [], _ :: _, _, h, _ => h.elim
  | _ :: _, [], _, h, _ => h.elim
theorem ix_ch {cs : List Stg} {i : Nat} {s : Stg} {S : Sto} (h : cs[i]? = some s) : liftIx (.pv (eCh cs)) (.pv (.int (i : Nat))) S = .ok (.pv (eStg s)) S := by
  rw [ix_pv]; simp [eCh, ix_tup, h]
theorem ix_ts {ts : List St} {i : Nat} {t : St} {S : Sto} (h : ts[i]? = some t) : liftIx (.pv (eTs ts)) (.pv (.int (i : Nat))) S = .ok (.pv (eSt t)) S := by
  rw [ix_pv]; simp [eTs, ix_tup, h]
theorem len_ch {cs : List Stg} {S : Sto} : b1 fLen [.pv (eCh cs)] S = .ok (.pv (.int (cs.length : Nat))) S := by simp [b1_pv, fLen, eCh]
theorem frees_ix : ∀ {cs : List Stg} {ts : List St} {f : Bool}, WfTs cs ts → cs ≠ [] → ((List.range (cs.length - 1)).map fun i => reach (cs.getD (i + 1) default) (ts.getD (i + 1) default)) ++ [f] = freesC cs ts f
  | [], _, _, _, h => absurd rfl h
  | [s], [t], f, _, _ => rfl
  | [s], _ :: _ :: _, f, h, _ => h.2.elim
  | s :: s2 :: ss, t :: t2 :: ts, f, h, _ => by
    have ih := frees_ix (f := f) h.2 (by simp)
    simp only [freesC, headFree] at ih ⊢
    rw [← ih]
    simp only [List.length_cons, Nat.add_sub_cancel, List.range_succ_eq_map, List.map_cons, List.map_map, List.cons_append]
    rfl
  | _ :: _, [], _, h, _ => h.elim
  | _ :: _ :: _, [_], _, h, _ => h.2.elim
theorem rng_ok2 {S : Sto} {i j : Int} (hi : 0 ≤ i) (hi2 : i < 1000000) (hj : 0 ≤ j) (h2 : j < 1000000) : rngOf i j S = .ok ((List.range (j - i).toNat).map fun k => Val.pv (.int (i + (k : Nat)))) S := by
  have a1 : decide (-(2 : Int) ^ 62 ≤ i) = true := decide_eq_true (by omega)
  have a2 : decide (i < (2 : Int) ^ 62) = true := decide_eq_true (by omega)
  have a3 : decide (-(2 : Int) ^ 62 ≤ j) = true := decide_eq_true (by omega)
  have a4 : decide (j < (2 : Int) ^ 62) = true := decide_eq_true (by omega)
  rw [rngOf_eq]
  unfold rngRaw
  simp only [a1, a2, a3, a4, Bool.and_self, ite_true]
theorem e_frees {cs : List Stg} {ts : List St} {f : Bool} {S : Sto} (w : WfC cs) (h : WfTs cs ts) (h0 : cs ≠ []) (h4 : cs.length ≤ 10) : F_p_frees_of [.pv (eCh cs), .pv (eTs ts), .pv (.bool f)] S = .ok (.pv (.list ((freesC cs ts f).map .bool))) S := by
  have hpos : 1 ≤ cs.length := by cases cs with | nil => exact absurd rfl h0 | cons a b => simp
  have rg := rng_ok2 (S := S) (i := 1) (j := (cs.length : Nat)) (by omega) (by omega) (by omega) (by omega)
  have e1 : ((cs.length : Int) - 1).toNat = cs.length - 1 := by omega
  rw [e1] at rg
  have lc := lc_gen' (g := gN 3) (T := dYes) (A := dCall F_p_reached (dCons (dIx (dNm 0) (dNm 3)) (dCons (dIx (dNm 1) (dNm 3)) dNil))) (ρ := wipeE [some (.pv (eCh cs)), some (.pv (eTs ts)), some (.pv (.bool f)), none] [3]) (S := S)
    (val := fun k : Nat => Val.pv (.int (1 + (k : Int)))) (keep := fun _ => true) (out := fun i => .bool (reach (cs.getD (i + 1) default) (ts.getD (i + 1) default))) (List.range (cs.length - 1)) rfl (fun i hi => by
      have hi : i < cs.length - 1 := List.mem_range.mp hi
      obtain ⟨s, t, e1, e2, wt, hm⟩ := WfTs.get (i + 1) h (by omega)
      have c : (1 + (i : Int)) = ((i + 1 : Nat) : Int) := by omega
      refine ⟨_, rfl, rfl, fun _ => ?_⟩
      simp only [wipeE, c]
      have g1 : cs.getD (i + 1) default = s := by rw [List.getD_eq_getElem?_getD, e1]; rfl
      have g2 : ts.getD (i + 1) default = t := by rw [List.getD_eq_getElem?_getD, e2]; rfl
      simp only [ap_Call, ap_Cons, ap_Ix, ap_Nm, ap_Nil, List.set_cons_succ, List.set_cons_zero, List.getElem?_cons_zero, List.getElem?_cons_succ, Res.bind_ok, ix_ch e1, ix_ts e2, e_reached (w s hm) wt, g1, g2]) (by simp; omega)
  unfold F_p_frees_of dFun
  have fe := frees_ix (f := f) h h0
  simp [len_ch, rg]
  rw [lc]
  simp only [fil_true, Res.bind_ok, l2_pv, opAdd, List.length_map, List.length_range, List.length_singleton]
  have hz : szOk (cs.length - 1 + 1) = true := decide_eq_true (by omega)
  simp only [hz, ite_true, dEnd_ret, Res.s_ok, leave_pv, List.take_length]
  rw [← fe]
  simp
theorem e_chain_step {cs : List Stg} {ts : List St} {g f : Bool} {S : Sto} (w : WfC cs) (h : WfTs cs ts) (h0 : cs ≠ []) (h4 : cs.length ≤ 10) :
    F_p_chain_step [.pv (eCh cs), .pv (eTs ts), .pv (.bool g), .pv (.bool f)] S = .ok (.pv (.tuple [eTs (afterC cs ts g f), .bool (giveC cs ts g f), eWr (wrongC cs ts g f)])) S := by
  refine sat_eq ?_
  unfold F_p_chain_step
  refine sat_fun rfl ?_
  simp only [List.map_cons, List.map_nil, List.replicate, List.cons_append, List.nil_append, Nat.reduceSub]
  refine sat_then (fun ρ S' => ρ = [some (.pv (eCh cs)), some (.pv (eTs ts)), some (.pv (.bool g)), some (.pv (.bool f)), some (.pv (.tuple [])), some (.pv .none), none, none, none, none] ∧ S' = S) ?_ ?_
  · simp [gT_ap, go_cons, go_nil]
  rintro ρ S' ⟨rfl, rfl⟩
  refine sat_then (fun ρ S1 => S1 = S' ∧ ∃ y6 y7 y8 y9, ρ = [some (.pv (eCh cs)), some (.pv (eTs ts)), some (.pv (.bool (giveC cs ts g f))), some (.pv (.bool f)), some (.pv (eTs (afterC cs ts g f))), some (.pv (eWr (wrongC cs ts g f))), y6, y7, y8, y9]) ?_ ?_
  · have key : ∀ (ss : List Stg) (us : List St) (pre : List Stg) (preT : List St) (found : List St) (wr : Option (Nat × Str)) (g : Bool) (y6 y7 y8 y9 : Option Val) (D : Ws), cs = pre ++ ss → ts = preT ++ us → pre.length = preT.length → WfTs ss us → WfC ss → found.length + ss.length ≤ 10 →
        (∀ z6 z7 z8 z9, D.n [some (.pv (eCh cs)), some (.pv (eTs ts)), some (.pv (.bool (giveC ss us g f))), some (.pv (.bool f)), some (.pv (eTs (found ++ afterC ss us g f))), some (.pv (eWr (wr.or (faultC pre.length ss (infC ss us g f))))), z6, z7, z8, z9] S') →
        (loopF (gT [(gN 6), (gN 7)]) (dSeq (dSet 8 (dCall F_p_wrong_word (dCons (dIx (dNm 0) (dNm 6)) (dCons (dIx (dNm 1) (dNm 6)) (dCons (dNm 2) (dCons (dNm 7) dNil))))))
  (dSeq (dSet 5 (dIf (dAndT (dTst (d2 opIs (dNm 5) (dC .none))) (dTst (d2 opIsNot (dNm 8) (dC .none)))) (dTup (dCons (dNm 6) (dCons (dNm 8) dNil))) (dNm 5)))
  (dSeq (dAs (gT [(gN 9), (gN 2)]) (dCall F_p_step (dCons (dIx (dNm 0) (dNm 6)) (dCons (dIx (dNm 1) (dNm 6)) (dCons (dNm 2) (dCons (dNm 7) dNil))))))
  (dSet 4 (d2 opAdd (dNm 4) (dTup (dCons (dNm 9) dNil))))))) ((((freesC ss us f).map PyData.bool).zipIdx pre.length).map fun p => enumP p.2 p.1)
          [some (.pv (eCh cs)), some (.pv (eTs ts)), some (.pv (.bool g)), some (.pv (.bool f)), some (.pv (eTs found)), some (.pv (eWr wr)), y6, y7, y8, y9] S').sat (fun _ _ => False) D := by
      intro ss
      induction ss with
      | nil =>
        intro us pre preT found wr g y6 y7 y8 y9 D e1 e2 e3 hw wc hf hd
        cases us with
        | nil => simpa [freesC, loopF, giveC, infC, goC, lastV, afterC, faultC] using hd y6 y7 y8 y9
        | cons a b => exact hw.elim
      | cons s ss ih =>
        intro us pre preT found wr g y6 y7 y8 y9 D e1 e2 e3 hw wc hf hd
        cases us with
        | nil => exact hw.elim
        | cons t us =>
          have c1 : cs[pre.length]? = some s := by rw [e1]; simp
          have c2 : ts[pre.length]? = some t := by rw [e2, e3]; simp
          have ih' := ih us (pre ++ [s]) (preT ++ [t]) (found ++ [(stepS s t g (headFree ss us f)).1]) (wr.or ((faultS s t.1 (stepS s t g (headFree ss us f)).1.1 g (headFree ss us f) (stepS s t g (headFree ss us f)).2).map fun x => (pre.length, x))) (stepS s t g (headFree ss us f)).2
          simp only [freesC, List.map_cons, List.zipIdx_cons, loopF, enumP]
          rw [gT_ap, go_cons, ap_gN, Option.bind_some, go_cons, ap_gN, Option.bind_some, go_nil]
          simp only [List.set_cons_zero, List.set_cons_succ]
          have body : ((dSeq (dSet 8 (dCall F_p_wrong_word (dCons (dIx (dNm 0) (dNm 6)) (dCons (dIx (dNm 1) (dNm 6)) (dCons (dNm 2) (dCons (dNm 7) dNil))))))
  (dSeq (dSet 5 (dIf (dAndT (dTst (d2 opIs (dNm 5) (dC .none))) (dTst (d2 opIsNot (dNm 8) (dC .none)))) (dTup (dCons (dNm 6) (dCons (dNm 8) dNil))) (dNm 5)))
  (dSeq (dAs (gT [(gN 9), (gN 2)]) (dCall F_p_step (dCons (dIx (dNm 0) (dNm 6)) (dCons (dIx (dNm 1) (dNm 6)) (dCons (dNm 2) (dCons (dNm 7) dNil))))))
  (dSet 4 (d2 opAdd (dNm 4) (dTup (dCons (dNm 9) dNil))))))) [some (.pv (eCh cs)), some (.pv (eTs ts)), some (.pv (.bool g)), some (.pv (.bool f)), some (.pv (eTs found)), some (.pv (eWr wr)), some (.pv (.int (pre.length : Nat))), some (.pv (.bool (headFree ss us f))), y8, y9] S') =
            .next [some (.pv (eCh cs)), some (.pv (eTs ts)), some (.pv (.bool (stepS s t g (headFree ss us f)).2)), some (.pv (.bool f)), some (.pv (eTs (found ++ [(stepS s t g (headFree ss us f)).1]))), some (.pv (eWr (wr.or ((faultS s t.1 (stepS s t g (headFree ss us f)).1.1 g (headFree ss us f) (stepS s t g (headFree ss us f)).2).map fun x => (pre.length, x))))), some (.pv (.int (pre.length : Nat))), some (.pv (.bool (headFree ss us f))), some (.pv (eOpt (wrongS s t g (headFree ss us f)))), some (.pv (eSt (stepS s t g (headFree ss us f)).1))] S' := by
            have ew := e_wrong (g := g) (f := headFree ss us f) (S := S') wc.hd hw.1
            have es := e_step (g := g) (f := headFree ss us f) (S := S') wc.hd hw.1
            have ad : opAdd (eTs found) (.tuple [eSt (stepS s t g (headFree ss us f)).1]) = some (eTs (found ++ [(stepS s t g (headFree ss us f)).1])) := by
              unfold eTs
              rw [addT (by simp; simp at hf; omega)]
              simp
            cases wr with
            | some kw => obtain ⟨k0, w0⟩ := kw; simp [ix_ch c1, ix_ts c2, ew, es, l2_pv, eWr, opIs, gT_ap, go_cons, go_nil, ad]
            | none =>
              have ee : wrongS s t g (headFree ss us f) = faultS s t.1 (stepS s t g (headFree ss us f)).1.1 g (headFree ss us f) (stepS s t g (headFree ss us f)).2 := rfl
              cases hq : faultS s t.1 (stepS s t g (headFree ss us f)).1.1 g (headFree ss us f) (stepS s t g (headFree ss us f)).2 with
              | none => rw [hq] at ee; simp [ix_ch c1, ix_ts c2, ew, es, l2_pv, eWr, opIs, opIsNot, gT_ap, go_cons, go_nil, ad, ee, eOpt]
              | some w => rw [hq] at ee; simp [ix_ch c1, ix_ts c2, ew, es, l2_pv, eWr, opIs, opIsNot, gT_ap, go_cons, go_nil, ad, ee, eOpt]
          rw [body]
          simp only []
          have el : (pre ++ [s]).length = pre.length + 1 := by simp
          rw [el] at ih'
          refine ih' _ _ _ _ D (by rw [e1]; simp) (by rw [e2]; simp) (by simp [e3]) hw.2 wc.tl (by simp at hf ⊢; omega) fun z6 z7 z8 z9 => ?_
          have hh := hd z6 z7 z8 z9
          have eg : giveC (s :: ss) (t :: us) g f = giveC ss us (stepS s t g (headFree ss us f)).2 f := rfl
          have ea : found ++ afterC (s :: ss) (t :: us) g f = (found ++ [(stepS s t g (headFree ss us f)).1]) ++ afterC ss us (stepS s t g (headFree ss us f)).2 f := by simp [afterC, goC]
          have ef : wr.or (faultC pre.length (s :: ss) (infC (s :: ss) (t :: us) g f)) = (wr.or ((faultS s t.1 (stepS s t g (headFree ss us f)).1.1 g (headFree ss us f) (stepS s t g (headFree ss us f)).2).map fun x => (pre.length, x))).or (faultC (pre.length + 1) ss (infC ss us (stepS s t g (headFree ss us f)).2 f)) := by
            have e : infC (s :: ss) (t :: us) g f = ⟨t.1, (stepS s t g (headFree ss us f)).1.1, g, headFree ss us f, (stepS s t g (headFree ss us f)).2⟩ :: infC ss us (stepS s t g (headFree ss us f)).2 f := rfl
            rw [e, faultC]
            cases faultS s t.1 (stepS s t g (headFree ss us f)).1.1 g (headFree ss us f) (stepS s t g (headFree ss us f)).2 <;> cases wr <;> rfl
          rw [eg, ea, ef] at hh
          exact hh
    rw [ap_For, sat_s, ap_Enum, sat_bind]
    simp only [ap_Call, ap_Cons, ap_Nm, ap_Nil, List.getElem?_cons_zero, List.getElem?_cons_succ, Res.bind_ok, e_frees w h h0 h4, sat_ok, ps_l]
    rw [enum_zip]
    have k0 := key cs ts [] [] [] none g none none none none { n := fun ρ S1 => S1 = S' ∧ ∃ y6 y7 y8 y9, ρ = [some (.pv (eCh cs)), some (.pv (eTs ts)), some (.pv (.bool (giveC cs ts g f))), some (.pv (.bool f)), some (.pv (eTs (afterC cs ts g f))), some (.pv (eWr (wrongC cs ts g f))), y6, y7, y8, y9], r := fun v S1 => (leave S'.length v S1).sat (fun _ _ => False) fun a S'_1 => a = .pv (.tuple [eTs (afterC cs ts g f), .bool (giveC cs ts g f), eWr (wrongC cs ts g f)]) ∧ S'_1 = S' } rfl rfl rfl h w (by simp; omega) (fun z6 z7 z8 z9 => ⟨rfl, z6, z7, z8, z9, by simp [wrongC]⟩)
    exact k0
  rintro ρ S1 ⟨rfl, y6, y7, y8, y9, rfl⟩
  simp

end Law
set_option maxHeartbeats 4000000
namespace Law
open PySem PySem.Spec PyProof.Rows L2 L2H LamX Mi
abbrev Bt := Bool × Bool
def eBs (bs : List Bt) : PyData := .tuple (bs.map eBt)
def pBt : PyData → Option Bt
  | .tuple [.bool a, .bool b] => some (a, b)
  | _ => none
theorem pBt_some {v : PyData} {b : Bt} (h : pBt v = some b) : v = eBt b := by
  unfold pBt at h
  split at h
  · cases h; rfl
  · cases h
theorem pBt_e (b : Bt) : pBt (eBt b) = some b := rfl
theorem go_bt {g1 g2 : Nat} {b : Bt} {ρ : En} : gT [(gN g1), (gN g2)] (.pv (eBt b)) ρ = some ((ρ.set g1 (some (.pv (.bool b.1)))).set g2 (some (.pv (.bool b.2)))) := by
  unfold eBt
  rw [gT_ap, go_cons, ap_gN, Option.bind_some, go_cons, ap_gN, Option.bind_some, go_nil]
/-- the first stage's word has reached the one ahead -/
def reachC (cs : List Stg) (ts : List St) : Bool := headFree cs ts false
def hcP (cs : List Stg) : List St → List PyData → Bool
  | _, [] => true
  | ts, p :: r => match pBt p with
    | none => false
    | some b => (!b.1 || reachC cs ts) && hcP cs (afterC cs ts b.1 b.2) r
def pCrs (cs : List Stg) (ts : List St) : PyData → Bool
  | .tuple ps => decide (ps.length ≤ 60) && hcP cs ts ps
  | _ => false
theorem in_beats {s : Stg} {t : St} (b : Bt) : opNotIn (eBt b) (.list ((beatsS s t).map eBt)) = some (.bool (!(!b.1 || reach s t))) := by
  unfold beatsS
  obtain ⟨g, f⟩ := b
  cases reach s t <;> cases g <;> cases f <;> rfl
theorem ix_ch0 {s : Stg} {ss : List Stg} {S : Sto} : liftIx (.pv (eCh (s :: ss))) (.pv (.int 0)) S = .ok (.pv (eStg s)) S := ix_ch (i := 0) rfl
theorem ix_ts0 {t : St} {ts : List St} {S : Sto} : liftIx (.pv (eTs (t :: ts))) (.pv (.int 0)) S = .ok (.pv (eSt t)) S := ix_ts (i := 0) rfl
theorem e_first_of {cs : List Stg} {S : Sto} (w : WfC cs) (h4 : cs.length ≤ 10) : F_p_first_of [.pv (eCh cs)] S = .ok (.pv (eTs (firstC cs))) S := by
  have lc := lc_gen' (g := gN 1) (T := dYes) (A := dCall F_p_first_state (dCons (dNm 1) dNil)) (ρ := wipeE [some (.pv (eCh cs)), none] [1]) (S := S)
    (val := fun s : Stg => Val.pv (eStg s)) (keep := fun _ => true) (out := fun s => eSt (first s)) cs (xs := (cs.map eStg).map .pv) (by simp) (fun s hs => ⟨_, rfl, rfl, fun _ => by simp [wipeE, e_first (w s hs)]⟩) (by omega)
  unfold F_p_first_of dFun
  simp only [List.map_cons, List.map_nil, List.replicate, List.cons_append, List.nil_append, List.length_cons, List.length_nil, Nat.reduceSub, Nat.reduceAdd, ite_true, ap_Ret, ap_Call, ap_Cons, ap_Lc, ap_Items, ap_Nm, List.getElem?_cons_zero, Res.bind_ok, eCh, itemsOf]
  rw [eCh] at lc
  rw [lc]
  simp [b1_pv, fTuple, fil_true, eTs, firstC]
theorem sum_ints (l : List Int) : fSum (.list (l.map .int)) = some (.int l.sum) := by
  have : ∀ l : List Int, intsOf (l.map .int) = some l := by
    intro l
    induction l with
    | nil => rfl
    | cons a r ih => simp [intsOf, ih]
  simp [fSum, this]
theorem held_zip : ∀ {cs : List Stg} {ts : List St}, (((cs.zip ts).map fun p => (p.1.row p.2.1).held).sum) = heldC cs ts
  | [], _ => by simp [heldC]
  | _ :: _, [] => by simp [heldC]
  | s :: ss, t :: ts => by simp [heldC, held_zip (cs := ss) (ts := ts)]
end Law
set_option maxHeartbeats 4000000
namespace Law
open PySem PySem.Spec PyProof.Rows L2 L2H LamX Mi
/-- a move, a row, a stage of plain data -/
def MvOk (many : Nat) (v : PyData) : Prop := ∃ (a : Int) (b : Bool), v = .tuple [.int a, .bool b] ∧ 0 ≤ a ∧ a < many
def RwOk (many : Nat) (v : PyData) : Prop := ∃ (h : Int) (b : Bool) (ms : List PyData), v = .tuple [.int h, .bool b, .tuple ms] ∧ 0 ≤ h ∧ h ≤ 6 ∧ ms.length = 4 ∧ ∀ m ∈ ms, MvOk many m
def held (v : PyData) : Option PyData := match v with
  | .tuple (x :: _) => some x
  | _ => none
def StOk (v : PyData) : Prop := ∃ (late : Int) (rs : List PyData), v = .tuple [.int late, .tuple rs] ∧ 0 ≤ late ∧ late ≤ 2 ∧ 1 ≤ rs.length ∧ rs.length ≤ 6 ∧ (∀ r ∈ rs, RwOk rs.length r) ∧ (rs.head?.bind held) = some (.int 0)
theorem gd_int {n d : Nat} {i : Int} (h : i.natAbs ≤ 1000) : Gd n d (.int i) := ⟨by simp only [vb, decide_eq_true_eq]; omega, Nat.zero_le _⟩
theorem gd_bool {n d : Nat} {b : Bool} : Gd n d (.bool b) := ⟨rfl, Nat.zero_le _⟩
theorem MvOk.gd {many : Nat} {v : PyData} (h : MvOk many v) (hm : many ≤ 6) : Gd 0 1 v := by
  obtain ⟨a, b, rfl, h0, h1⟩ := h
  refine gd_tup (by simp) fun x hx => ?_
  simp at hx
  rcases hx with rfl | rfl
  · exact gd_int (by omega)
  · exact gd_bool
theorem RwOk.gd {many : Nat} {v : PyData} (h : RwOk many v) (hm : many ≤ 6) : Gd 0 3 v := by
  obtain ⟨hh, b, ms, rfl, h0, h1, h4, hms⟩ := h
  refine gd_tup (by simp) fun x hx => ?_
  simp at hx
  rcases hx with rfl | rfl | rfl
  · exact gd_int (by omega)
  · exact gd_bool
  · exact gd_tup (by omega) fun m hm' => (hms m hm').gd hm
theorem StOk.gd {v : PyData} (h : StOk v) : Gd 0 5 v := by
  obtain ⟨late, rs, rfl, h0, h1, h2, h3, hr, _⟩ := h
  refine gd_tup (by simp) fun x hx => ?_
  simp at hx
  rcases hx with rfl | rfl
  · exact gd_int (by omega)
  · exact gd_tup (by omega) fun r hr' => (hr r hr').gd h3
theorem qrow_ok {p s h : Int} (h0 : 0 ≤ h) (h1 : h ≤ p) (hp : 1 ≤ p) (h5 : p ≤ 5) : RwOk (p + 1).toNat (qRow p s h) := by
  refine ⟨h, _, _, rfl, h0, by omega, rfl, fun m hm => ?_⟩
  simp at hm
  have g : ∀ g f : Int, (g = 0 ∨ g = 1) → MvOk (p + 1).toNat (qGive p h g f) := fun g f hg => by
    refine ⟨_, _, rfl, ?_, ?_⟩
    · rcases hg with rfl | rfl <;> (split <;> split <;> omega)
    · rcases hg with rfl | rfl <;> (split <;> split <;> omega)
  rcases hm with rfl | rfl | rfl | rfl
  · exact g 0 0 (.inl rfl)
  · exact g 0 1 (.inl rfl)
  · exact g 1 0 (.inr rfl)
  · exact g 1 1 (.inr rfl)
theorem qstage_ok {p s l : Int} (hp : 1 ≤ p) (h5 : p ≤ 5) (h0 : 0 ≤ l) (h2 : l ≤ 2) : StOk (qStage p s l) := by
  have e : (p + 1).toNat = (p + 1).toNat - 1 + 1 := by omega
  refine ⟨l, _, rfl, h0, h2, by simp; omega, by simp; omega, fun r hr => ?_, ?_⟩
  · simp only [List.mem_map, List.mem_range] at hr
    obtain ⟨i, hi, rfl⟩ := hr
    simp only [List.length_map, List.length_range]
    exact qrow_ok (by omega) (by omega) hp h5
  · rw [e, List.range_succ_eq_map]
    simp [held, qRow]
theorem sat_any_row {l many : Nat} {S : Sto} {E : Str → Sto → Prop} {Q : Val → Sto → Prop} (v : Vat l S) (h1 : 1 ≤ many) (h6 : many ≤ 6) (h : ∀ p S', RwOk many p → Nx l S S' → Q (.pv p) S') : (F_law_any_row [.loc l, .pv (.int many)] S).sat E Q := by
  unfold F_law_any_row
  refine sat_fun rfl ?_
  simp [rng_ok (S := S) (j := 4) (by decide) (by decide)]
  have key := sat_lc (E := fun c S1 => E c (S1.take S.length)) (I := fun i acc S' => Nx l S S' ∧ acc.length = i ∧ ∀ x ∈ acc, MvOk many x) (g := gN 3) (T := dYes) (A := dTup (dCons (dCall F_law_under (dCons (dNm 0) (dCons (dNm 1) dNil))) (dCons (d2 opEq (dCall F_law_under (dCons (dNm 0) (dCons (dC (.int 3)) dNil))) (dC (.int 0))) dNil)))
    (ρ := wipeE [some (.loc l), some (.pv (.int many)), none, none] [3]) (xs := (List.range (4 : Int).toNat).map fun i => Val.pv (.int (i : Nat)))
    (Q := fun a S1 => ((dRet (dTup (dCons (dCall F_law_under (dCons (dNm 0) (dCons (dC (.int 3)) dNil))) (dCons (d2 opEq (dCall F_law_under (dCons (dNm 0) (dCons (dC (.int 2)) dNil))) (dC (.int 0))) (dCons (dCall (b1 fTuple) (dCons (dNm 2) dNil)) dNil))))) [some (.loc l), some (.pv (.int many)), some a, none] S1).sat (fun c S1 => E c (S1.take S.length)) { n := fun ρ S1 => (leave S.length (.pv .none) S1).sat E Q, r := fun v S1 => (leave S.length v S1).sat E Q })
    (fun i x acc S' hx ⟨nx, hl, ha⟩ => ?_) (fun acc S' ⟨nx, hl, ha⟩ => ?_) 0 [] S (Nat.zero_le _) ⟨Nx.refl v, rfl, by simp⟩
  · simpa using key
  · have hi : i < 4 := by
      have := (List.getElem?_eq_some_iff.mp hx).1
      simpa using this
    refine ⟨_, rfl, ?_⟩
    simp [wipeE]
    refine sat_under nx.vat (by omega) (by omega) fun a S1 a0 a1 nx1 => ?_
    simp
    refine sat_under nx1.vat (by omega) (by omega) fun b S2 b0 b1 nx2 => ?_
    simp [l2_pv]
    refine ⟨by omega, (nx.trans nx1).trans nx2, by omega, fun y hy => ?_⟩
    rcases hy with z | z
    · exact ha y z
    · subst z; exact ⟨_, _, rfl, a0, a1⟩
  · simp
    refine sat_under nx.vat (by omega) (by omega) fun a S1 a0 a1 nx1 => ?_
    simp
    refine sat_under nx1.vat (by omega) (by omega) fun b S2 b0 b1' nx2 => ?_
    have nn := (nx.trans nx1).trans nx2
    simp [l2_pv, b1_pv, fTuple, nn.take]
    exact h _ _ ⟨_, _, _, rfl, a0, by omega, by simpa using hl, ha⟩ nn
/-- the same late -/
def lateP (st p : PyData) : Prop := ∃ (l : PyData) (rs rs' : List PyData), st = .tuple [l, .tuple rs] ∧ p = .tuple [l, .tuple rs']
theorem sat_otherwise2 {l : Nat} {st : PyData} {S : Sto} {E : Str → Sto → Prop} {Q : Val → Sto → Prop} (v : Vat l S) (hs : StOk st) (h : ∀ p S', StOk p → lateP st p → Nx l S S' → Q (.pv p) S') : (F_law_otherwise [.loc l, .pv st] S).sat E Q := by
  obtain ⟨late, rs, rfl, h0, h2, hl1, hl6, hr, hh⟩ := hs
  unfold F_law_otherwise
  refine sat_fun rfl ?_
  have ln : ∀ S', b1 fLen [.pv (.tuple rs)] S' = .ok (.pv (.int rs.length)) S' := fun S' => by simp [b1_pv, fLen]
  simp [gT_ap, go_cons, go_nil, ln]
  refine sat_under v (by omega) (by omega) fun t S1 t0 t1 nx1 => ?_
  try simp
  refine sat_under nx1.vat (by omega) (by omega) fun k S2 k0 k1 nx2 => ?_
  have nn2 := nx1.trans nx2
  obtain ⟨tn, rfl⟩ : ∃ k : Nat, t = (k : Int) := ⟨t.toNat, by omega⟩
  obtain ⟨kn, rfl⟩ : ∃ j : Nat, k = (j : Int) := ⟨k.toNat, by omega⟩
  have htn : tn < rs.length := by omega
  obtain ⟨hd, b, ms, er, g0, g6, g4, gm⟩ := hr _ (List.getElem_mem htn)
  have ixt : ∀ S', liftIx (.pv (.tuple rs)) (.pv (.int (tn : Nat))) S' = .ok (.pv (.tuple [.int hd, .bool b, .tuple ms])) S' := fun S' => by
    have e := at_nat (ps := rs) (r := (tn : Nat)) (by omega) (by omega)
    simp [ix_pv, ixOf, e, er]
  -- the end: a new row at its place
  have fin : ∀ (row : PyData) S3, Nx l S S3 → RwOk rs.length row → held row = some (.int hd) → (leave S.length (.pv (.tuple [.int late, .tuple (rs.take tn ++ row :: rs.drop (tn + 1))])) S3).sat E Q := fun row S3 nx hw hh' => by
    simp [nx.take]
    have el : (rs.take tn ++ row :: rs.drop (tn + 1)).length = rs.length := by simp; omega
    refine h _ _ ⟨late, _, rfl, h0, h2, by omega, by omega, fun r hr' => ?_, ?_⟩ ⟨_, _, _, rfl, rfl⟩ nx
    · rw [el]
      rcases List.mem_append.mp hr' with z | z
      · exact hr r (List.mem_of_mem_take z)
      · rcases List.mem_cons.mp z with z | z
        · rw [z]; exact hw
        · exact hr r (List.mem_of_mem_drop z)
    · cases tn with
      | zero =>
        have e0 : rs.head? = some (.tuple [.int hd, .bool b, .tuple ms]) := by rw [List.head?_eq_getElem?, List.getElem?_eq_getElem htn, er]
        rw [e0] at hh
        simp [held] at hh
        simp [hh', hh]
      | succ j =>
        cases rs with
        | nil => simp at htn
        | cons r0 rr => simpa using hh
  have c1 := cut_lo (xs := rs) (r := tn) (by omega)
  have c4 := cut_hi (xs := rs) (r := tn + 1) (by omega)
  have e1 : ((tn : Int) + 1) = ((tn + 1 : Nat) : Int) := by omega
  rw [← e1] at c4
  have d1 := cut_lo (xs := ms) (r := kn) (by omega)
  have d4 := cut_hi (xs := ms) (r := kn + 1) (by omega)
  have e2 : ((kn : Int) + 1) = ((kn + 1 : Nat) : Int) := by omega
  rw [← e2] at d4
  have ad : ∀ row : PyData, opAdd (.tuple (rs.take tn)) (.tuple [row]) = some (.tuple (rs.take tn ++ [row])) := fun row => add_tup (by simp; omega)
  have ad2 : ∀ row : PyData, opAdd (.tuple (rs.take tn ++ [row])) (.tuple (rs.drop (tn + 1))) = some (.tuple (rs.take tn ++ row :: rs.drop (tn + 1))) := fun row => by
    have := add_tup (xs := rs.take tn ++ [row]) (ys := rs.drop (tn + 1)) (by simp; omega)
    simpa only [List.append_assoc, List.cons_append, List.nil_append] using this
  simp [ixt, gT_ap, go_cons, go_nil]
  refine sat_under nx2.vat (by omega) (by omega) fun f S3 f0 f1 nx3 => ?_
  have nn3 := nn2.trans nx3
  by_cases hf : f = 0
  · subst hf
    simp [l2_pv, sl_pv, c1, c4, opAdd_int, ad, ad2]
    exact fin _ S3 nn3 ⟨hd, !b, ms, rfl, g0, g6, g4, gm⟩ rfl
  · have q0 : (f == 0) = false := by simpa using hf
    simp [l2_pv, q0, ln]
    refine sat_under nx3.vat (by omega) (by omega) fun a S4 a0 a1 nx4 => ?_
    simp
    refine sat_under nx4.vat (by omega) (by omega) fun c S5 c0 c1' nx5 => ?_
    have nn5 := (nn3.trans nx4).trans nx5
    have am : ∀ mv : PyData, opAdd (.tuple (ms.take kn)) (.tuple [mv]) = some (.tuple (ms.take kn ++ [mv])) := fun row => add_tup (by simp; omega)
    have am2 : ∀ mv : PyData, opAdd (.tuple (ms.take kn ++ [mv])) (.tuple (ms.drop (kn + 1))) = some (.tuple (ms.take kn ++ mv :: ms.drop (kn + 1))) := fun mv => by
      have := add_tup (xs := ms.take kn ++ [mv]) (ys := ms.drop (kn + 1)) (by simp; omega)
      simpa only [List.append_assoc, List.cons_append, List.nil_append] using this
    simp [l2_pv, sl_pv, c1, c4, d1, d4, opAdd_int, ad, ad2, am, am2]
    refine fin _ S5 nn5 ⟨hd, b, _, rfl, g0, g6, by simp; omega, fun m hm => ?_⟩ rfl
    rcases List.mem_append.mp hm with z | z
    · exact gm m (List.mem_of_mem_take z)
    · rcases List.mem_cons.mp z with z | z
      · rw [z]; exact ⟨_, _, rfl, a0, a1⟩
      · exact gm m (List.mem_of_mem_drop z)
theorem sat_otherwise {l : Nat} {st : PyData} {S : Sto} {E : Str → Sto → Prop} {Q : Val → Sto → Prop} (v : Vat l S) (hs : StOk st) (h : ∀ p S', StOk p → Nx l S S' → Q (.pv p) S') : (F_law_otherwise [.loc l, .pv st] S).sat E Q := sat_otherwise2 v hs fun p S' a _ c => h p S' a c

/-- step by step: R holds between -/
theorem sat_stage3 {l many : Nat} {late : Int} {S S3 : Sto} {E : Str → Sto → Prop} {Q : Val → Sto → Prop} (ret : ∀ p S2, StOk p → Nx l S S2 → (leave S.length (.pv p) S2).sat E Q) (hl0 : 0 ≤ late) (hl2 : late ≤ 2) (hm1 : 1 ≤ many) (hm4 : many ≤ 4) (nn3 : Nx l S S3) :
    ((dSeq (dSet 4 (dLc (dRng1 (dNm 3)) [5] (gN 5) dYes (dCall F_law_any_row (dCons (dNm 0) (dCons (dNm 3) dNil)))))
      (dRet (dTup (dCons (dNm 1) (dCons (d2 opAdd (dTup (dCons (d2 opAdd (dTup (dCons (dC (.int 0)) dNil)) (dSl (dIx (dNm 4) (dC (.int 0))) (dPt (dC (.int 1))) dNo)) dNil)) (dCall (b1 fTuple) (dCons (dSl (dNm 4) (dPt (dC (.int 1))) dNo) dNil))) dNil))))) [some (.loc l), some (.pv (.int late)), none, some (.pv (.int (many : Nat))), none, none] S3).sat
      (fun c S1 => E c (S1.take S.length)) { n := fun ρ S1 => (leave S.length (.pv .none) S1).sat E Q, r := fun v S1 => (leave S.length v S1).sat E Q } := by
  refine sat_then (fun ρ S4 => ∃ acc : List PyData, ρ = [some (.loc l), some (.pv (.int late)), none, some (.pv (.int (many : Nat))), some (.pv (.list acc)), none] ∧ acc.length = many ∧ (∀ x ∈ acc, RwOk many x) ∧ Nx l S S4) ?_ ?_
  · have rg := rng_ok (S := S3) (j := (many : Nat)) (by omega) (by omega)
    have key := sat_lc (E := fun c S1 => E c (S1.take S.length)) (I := fun i acc S' => Nx l S S' ∧ acc.length = i ∧ ∀ x ∈ acc, RwOk (many) x) (g := gN 5) (T := dYes) (A := dCall F_law_any_row (dCons (dNm 0) (dCons (dNm 3) dNil)))
      (ρ := wipeE [some (.loc l), some (.pv (.int late)), none, some (.pv (.int (many : Nat))), none, none] [5]) (xs := (List.range ((many : Nat) : Int).toNat).map fun i => Val.pv (.int (i : Nat)))
      (Q := fun (a : Val) S1 => ∃ acc : List PyData, a = .pv (.list acc) ∧ acc.length = many ∧ (∀ x ∈ acc, RwOk (many) x) ∧ Nx l S S1)
      (fun i x acc S' hx ⟨nx, hl, ha⟩ => ?_) (fun acc S' ⟨nx, hl, ha⟩ => ⟨acc, rfl, by simpa using hl, ha, nx⟩) 0 [] S3 (Nat.zero_le _) ⟨nn3, rfl, by simp⟩
    · rw [List.drop_zero] at key
      have e3 : dNm 3 [some (.loc l), some (.pv (.int late)), none, some (.pv (.int (many : Nat))), none, none] S3 = .ok (.pv (.int (many : Nat))) S3 := rfl
      rw [ap_Set, sat_s, ap_Lc, sat_bind, ap_Rng1, sat_bind, e3, sat_ok]
      simp only []
      rw [rg, sat_ok]
      refine Res.sat.imp key (fun a S4 hh => ?_) fun _ _ z => z
      obtain ⟨acc, rfl, h1, h2, h3⟩ := hh
      exact ⟨acc, rfl, h1, h2, h3⟩
    · have hi : i < many := by
        have := (List.getElem?_eq_some_iff.mp hx).1
        simpa using this
      refine ⟨_, rfl, ?_⟩
      show (F_law_any_row [.loc l, .pv (.int (many : Nat))] S').sat _ _
      refine sat_any_row nx.vat (by omega) (by omega) fun p S5 hp nx5 => ?_
      refine ⟨p, rfl, by omega, nx.trans nx5, by simp [hl], fun y hy => ?_⟩
      simp at hy
      rcases hy with z | z
      · exact ha y z
      · subst z; exact hp
  rintro ρ S4 ⟨acc, rfl, hl', ha, nx⟩
  cases acc with
  | nil => simp at hl'; omega
  | cons r0 rr =>
    obtain ⟨hd, b, ms, er, g0, g6, g4, gm⟩ := ha r0 (by simp)
    have ix0 : ∀ S', liftIx (.pv (.list (r0 :: rr))) (.pv (.int 0)) S' = .ok (.pv r0) S' := fun S' => by simp [ix_pv, ixOf, L2.atI, L2.ixN]
    have s1 : slOf (some 1) none r0 = some (.tuple [.bool b, .tuple ms]) := by
      have := cut_hi (xs := [.int hd, .bool b, .tuple ms]) (r := 1) (by simp)
      rw [er]; simpa using this
    have s2 : slOf (some 1) none (.list (r0 :: rr)) = some (.list rr) := by
      have e := HT.sIx_nat (rr.length + 1) 0 1
      have e : HT.sIx (rr.length + 1) 0 (some 1) = 1 := by rw [show (some (1 : Int)) = some ((1 : Nat) : Int) from rfl, e]; omega
      simp [slOf, cutP, HT.sIx_none, e]
    have a1' : opAdd (.tuple [.int 0]) (.tuple [.bool b, .tuple ms]) = some (.tuple [.int 0, .bool b, .tuple ms]) := add_tup (by simp)
    have a2' : opAdd (.tuple [.tuple [.int 0, .bool b, .tuple ms]]) (.tuple rr) = some (.tuple (.tuple [.int 0, .bool b, .tuple ms] :: rr)) := add_tup (by simp at hl' ⊢; omega)
    simp [ix0, sl_pv, s1, s2, b1_pv, fTuple, l2_pv, a1', a2']
    have el : (PyData.tuple [.int 0, .bool b, .tuple ms] :: rr).length = many := by simpa using hl'
    have ok : StOk (.tuple [.int late, .tuple (.tuple [.int 0, .bool b, .tuple ms] :: rr)]) := by
      refine ⟨late, _, rfl, hl0, hl2, by simp, by rw [el]; omega, fun r hr' => ?_, by simp [held]⟩
      rw [el]
      rcases List.mem_cons.mp hr' with z | z
      · rw [z]; exact ⟨0, b, ms, rfl, by decide, by decide, g4, gm⟩
      · exact ha r (List.mem_cons_of_mem _ z)
    have := ret _ _ ok nx
    simpa using this
theorem sat_stage {l : Nat} {S : Sto} {E : Str → Sto → Prop} {Q : Val → Sto → Prop} (v : Vat l S) (h : ∀ p S', StOk p → Nx l S S' → Q (.pv p) S') : (F_law_stage [.loc l] S).sat E Q := by
  unfold F_law_stage
  refine sat_fun rfl ?_
  have ret : ∀ p S2, StOk p → Nx l S S2 → (leave S.length (.pv p) S2).sat E Q := fun p S2 hp nx => by
    simp only [leave_pv, sat_ok, nx.take]
    exact h p S2 hp nx
  show (dSeq _ _ [some (.loc l), none, none, none, none, none] S).sat _ _
  refine sat_then (fun ρ S1 => ∃ late : Int, ρ = [some (.loc l), some (.pv (.int late)), none, none, none, none] ∧ 0 ≤ late ∧ late ≤ 2 ∧ Nx l S S1) ?_ ?_
  · have hd : ∀ lt ∈ [PyData.int 0, .int 0, .int 1, .int 1, .int 2], ∃ i : Int, lt = .int i ∧ 0 ≤ i ∧ i ≤ 2 := by
      intro lt hlt
      simp at hlt
      rcases hlt with rfl | rfl | rfl <;> exact ⟨_, rfl, by decide, by decide⟩
    simp
    refine sat_some (ps := [.int 0, .int 0, .int 1, .int 1, .int 2]) (.inl rfl) v (by simp) (by simp) fun lt S1 hlt nx1 => ?_
    obtain ⟨i, rfl, h0, h2⟩ := hd lt hlt
    exact ⟨i, rfl, h0, h2, nx1⟩
  rintro ρ S1 ⟨late, rfl, hl0, hl2, nx1⟩
  refine sat_then (fun ρ S2 => ρ = [some (.loc l), some (.pv (.int late)), none, none, none, none] ∧ Nx l S S2) ?_ ?_
  · refine sat_ifs (R := fun _ S2 => Nx l S S2) ?_ (fun S2 nn2 => ?_) fun S2 nn2 => ⟨rfl, nn2⟩
    · simp
      refine sat_under nx1.vat (by omega) (by omega) fun r S2 r0 r1 nx2 => ?_
      simp [l2_pv, opGt]
      exact nx1.trans nx2
    · refine sat_then (fun ρ S3 => ∃ p, ρ = [some (.loc l), some (.pv (.int late)), some (.pv p), none, none, none] ∧ StOk p ∧ Nx l S S3) ?_ ?_
      · simp
        refine sat_under nn2.vat (by omega) (by omega) fun a S3 a0 a1 nx3 => ?_
        simp [l2_pv, opAdd_int]
        refine sat_under nx3.vat (by omega) (by omega) fun b S4 b0 b1' nx4 => ?_
        try simp
        exact sat_lqueue (by omega) ⟨_, rfl, qstage_ok (by omega) (by omega) hl0 hl2, (nn2.trans nx3).trans nx4⟩
      · rintro ρ S4 ⟨p, rfl, ok, nn4⟩
        simp
        refine sat_under nn4.vat (by omega) (by omega) fun c S5 c0 c1 nx5 => ?_
        have nn5 := nn4.trans nx5
        by_cases hc : c = 0
        · simp [l2_pv, hc]
          exact ret _ _ ok nn5
        · simp [l2_pv, hc]
          exact sat_otherwise nx5.vat ok fun p S6 hp nx6 => ret _ _ hp (nn5.trans nx6)
  rintro ρ S2 ⟨rfl, nn2⟩
  refine sat_then (fun ρ S3 => ∃ many : Nat, 1 ≤ many ∧ many ≤ 4 ∧ ρ = [some (.loc l), some (.pv (.int late)), none, some (.pv (.int (many : Nat))), none, none] ∧ Nx l S S3) ?_ ?_
  · simp
    refine sat_under nn2.vat (by omega) (by omega) fun a S3 a0 a1 nx3 => ?_
    obtain ⟨an, rfl⟩ : ∃ k : Nat, a = (k : Int) := ⟨a.toNat, by omega⟩
    simp [l2_pv, opAdd_int]
    exact ⟨1 + an, by omega, by omega, by simp, nn2.trans nx3⟩
  rintro ρ S3 ⟨many, hm1, hm4, rfl, nn3⟩
  exact sat_stage3 ret hl0 hl2 hm1 hm4 nn3

end Law
set_option maxHeartbeats 4000000
namespace Law
open PySem PySem.Spec PyProof.Rows L2 L2H LamX Mi
def pChain : PyData → Bool
  | .tuple ps => decide (1 ≤ ps.length) && decide (ps.length ≤ 4) && ps.all pStage
  | _ => false
theorem e_has_chain {v : PyData} {S : Sto} (hv : cl v) (hd : v.depth ≤ 60) : F_p_has_chain [.pv v] S = .ok (.pv (.bool (pChain v))) S := by
  unfold F_p_has_chain dFun
  cases v with
  | tuple ps =>
    have hps := cl_tup hv
    have hdm : PyData.depthAll ps ≤ 59 := by
      simp only [PyData.depth] at hd
      omega
    by_cases h1 : 1 ≤ ps.length
    · by_cases h4 : ps.length ≤ 4
      · have h1' : (1 : Int) ≤ ps.length := by omega
        have h4' : (ps.length : Int) ≤ 4 := by omega
        have lf := lc_filter (i := 1) (ρ := [some (.pv (.tuple ps)), none]) (S := S) (T := dNotT (dTst (dCall F_p_has_stage (dCons (dNm 1) dNil)))) (f := fun m => !pStage m) (by simp) ps []
          (fun x hx => by simp [e_stage (hps x hx) (Nat.le_trans (dp_tup hx) (by omega))]) (by simp; omega)
        have s1 := shp_filter (fun m => !pStage m) hps (by omega)
        simp [isi_t hv, b1_pv, fLen, l2_pv, opLe, h1, h4, h1', h4', itemsOf, wipeE, lf, opEq, s1, shp_nil, eqv_nil, filt_all, pChain]
      · have h4' : ¬ (ps.length : Int) ≤ 4 := by omega
        have h1' : (1 : Int) ≤ ps.length := by omega
        simp [isi_t hv, b1_pv, fLen, l2_pv, opLe, h1, h4, h1', h4', pChain]
    · have h1' : ¬ (1 : Int) ≤ ps.length := by omega
      simp [isi_t hv, b1_pv, fLen, l2_pv, opLe, h1, h1', pChain]
  | _ => simp [isi_t hv, pChain]
theorem e_need_chain {v : PyData} {S : Sto} (hv : cl v) (hd : v.depth ≤ 60) (h : pChain v = true) : F_p_need_chain [.pv v] S = .ok (.pv .none) S := by
  unfold F_p_need_chain dFun
  simp [e_has_chain hv hd, h, dEnd]
theorem x_need_chain {v : PyData} {S : Sto} (hv : cl v) (hd : v.depth ≤ 60) (h : pChain v = false) : F_p_need_chain [.pv v] S = .err "InvalidChain" none S := by
  unfold F_p_need_chain dFun
  simp [e_has_chain hv hd, h, dEnd]
theorem hcP_parse {cs : List Stg} : ∀ {ps : List PyData} {ts : List St}, hcP cs ts ps = true → ∃ bs : List Bt, ps = bs.map eBt
  | [], _, _ => ⟨[], rfl⟩
  | p :: ps, ts, h => by
    simp only [hcP] at h
    cases hb : pBt p with
    | none => rw [hb] at h; cases h
    | some b =>
      rw [hb] at h
      simp only [Bool.and_eq_true] at h
      obtain ⟨bs, rfl⟩ := hcP_parse h.2
      exact ⟨b :: bs, by rw [pBt_some hb]; rfl⟩
theorem pCrs_parse {cs : List Stg} {ts : List St} {v : PyData} (h : pCrs cs ts v = true) : ∃ bs : List Bt, v = eBs bs ∧ bs.length ≤ 60 ∧ hcP cs ts (bs.map eBt) = true := by
  cases v with
  | tuple ps =>
    simp only [pCrs, Bool.and_eq_true, decide_eq_true_eq] at h
    obtain ⟨bs, rfl⟩ := hcP_parse h.2
    exact ⟨bs, rfl, by simpa using h.1, h.2⟩
  | _ => simp [pCrs] at h
/-- a stage, as data -/
theorem wf_stage {s : Stg} (w : Wf s) : pStage (eStg s) = true := by
  have hw : pIsW (.int (s.late : Nat)) 0 2 = true := by simp [pIsW]; have := w.late; omega
  have ha : ((s.rows.map eRow).all fun r => pRow r (s.rows.map eRow).length) = true := by
    refine List.all_eq_true.mpr fun r hr => ?_
    obtain ⟨r, hr', rfl⟩ := List.mem_map.mp hr
    have wr := w.rows r hr'
    have hm : ((r.mv.map eMv).all fun m => pMove m (s.rows.map eRow).length) = true := by
      refine List.all_eq_true.mpr fun m hm => ?_
      obtain ⟨m, hm', rfl⟩ := List.mem_map.mp hm
      have := wr.mv m hm'
      have e : (m.1 : Int) ≤ (s.rows.length : Int) - 1 := by omega
      simp [pMove, eMv, pIsW, e]
    simp only [pRow, eRow, pIsW, isB_bool, wr.h0, wr.h6, decide_true, Bool.and_self, List.length_map, wr.m4, beq_self_eq_true, hm]
    simpa using hm
  have h0 : p00 (s.rows.map eRow) = some (.int 0) := by
    have h1 := w.r1
    have hd := w.hd
    cases hs : s.rows with
    | nil => rw [hs] at h1; simp at h1
    | cons r rr =>
      rw [hs] at hd
      simp only [List.headD_cons] at hd
      simp [p00, eRow, hd]
  have l1 : decide (1 ≤ (s.rows.map eRow).length) = true := decide_eq_true (by simpa using w.r1)
  have l6 : decide ((s.rows.map eRow).length ≤ 6) = true := decide_eq_true (by simpa using w.r6)
  simp only [pStage, eStg, hw, ha, h0, l1, l6, Bool.true_and, beq_self_eq_true]
theorem gd_stg {s : Stg} (w : Wf s) : Gd 0 5 (eStg s) := by
  refine gd_tup (by simp) fun x hx => ?_
  simp at hx
  rcases hx with rfl | rfl
  · exact gd_int (by have := w.late; omega)
  · refine gd_tup (by simp; have := w.r6; omega) fun r hr => ?_
    obtain ⟨r, hr', rfl⟩ := List.mem_map.mp hr
    have wr := w.rows r hr'
    refine gd_tup (by simp) fun x hx => ?_
    simp at hx
    rcases hx with rfl | rfl | rfl
    · exact gd_int (by have := wr.h0; have := wr.h6; omega)
    · exact gd_bool
    · refine gd_tup (by simp; have := wr.m4; omega) fun m hm => ?_
      obtain ⟨m, hm', rfl⟩ := List.mem_map.mp hm
      have := wr.mv m hm'
      have := w.r6
      refine gd_tup (by simp) fun x hx => ?_
      simp at hx
      rcases hx with rfl | rfl
      · exact gd_int (by omega)
      · exact gd_bool
theorem wf_chain {cs : List Stg} (w : WfC cs) (h0 : cs ≠ []) (h4 : cs.length ≤ 4) : pChain (eCh cs) = true := by
  have hpos : 1 ≤ cs.length := by cases cs with | nil => exact absurd rfl h0 | cons a b => simp
  have ha : (cs.map eStg).all pStage = true := List.all_eq_true.mpr fun x hx => by
    obtain ⟨s, hs, rfl⟩ := List.mem_map.mp hx
    exact wf_stage (w s hs)
  have l1 : decide (1 ≤ (cs.map eStg).length) = true := decide_eq_true (by simpa using hpos)
  have l4 : decide ((cs.map eStg).length ≤ 4) = true := decide_eq_true (by simpa using h4)
  simp only [pChain, eCh, ha, l1, l4, Bool.and_self]
theorem gd_ch {cs : List Stg} (w : WfC cs) (h4 : cs.length ≤ 4) : Gd 0 6 (eCh cs) := gd_tup (by simp; omega) fun x hx => by
  obtain ⟨s, hs, rfl⟩ := List.mem_map.mp hx
  exact gd_stg (w s hs)
theorem gd_bs {bs : List Bt} {n : Nat} (h : bs.length ≤ 20 + n) : Gd n 2 (eBs bs) := gd_tup (by simpa using h) fun x hx => by
  obtain ⟨b, _, rfl⟩ := List.mem_map.mp hx
  refine gd_tup (by simp; omega) fun x hx => ?_
  simp at hx
  rcases hx with rfl | rfl <;> exact gd_bool
def lastT (cs : List Stg) : List St → List Bt → List St
  | ts, [] => ts
  | ts, b :: r => lastT cs (afterC cs ts b.1 b.2) r
def saysC (cs : List Stg) (ts : List St) : Bool := ((cs.headD default).row (ts.headD default).1).says
def runL (cs : List Stg) : List St → List Bt → List PyData
  | _, [] => []
  | ts, b :: r => .tuple [.bool (saysC cs ts), .bool (giveC cs ts b.1 b.2), .int (heldC cs (afterC cs ts b.1 b.2))] :: runL cs (afterC cs ts b.1 b.2) r
def wrongL (cs : List Stg) : Nat → List St → List Bt → Option (Nat × Nat × Str)
  | _, _, [] => none
  | n, ts, b :: r => match wrongC cs ts b.1 b.2 with
    | some w => some (n, w)
    | none => wrongL cs (n + 1) (afterC cs ts b.1 b.2) r
def eW3 : Option (Nat × Nat × Str) → PyData
  | none => .none
  | some (n, k, w) => .tuple [.int (n : Nat), .int (k : Nat), .str w]
theorem wfTs_last {cs : List Stg} (w : WfC cs) : ∀ {bs : List Bt} {ts : List St}, WfTs cs ts → WfTs cs (lastT cs ts bs)
  | [], _, h => h
  | _ :: bs, _, h => wfTs_last w (bs := bs) (wfTs_after w h)
end Law
set_option maxHeartbeats 4000000
namespace Law
open PySem PySem.Spec PyProof.Rows L2 L2H LamX Mi
def eSaid (said : List (List Bool)) : PyData := .list (said.map fun ws => .list (ws.map .bool))
def eNow (ts : List St) : PyData := .list (ts.map fun t => .int (t.1 : Nat))
def eInf (i : Inf) : PyData := .tuple [.int (i.a : Nat), .int (i.b : Nat), .bool i.g, .bool i.f, .bool i.v]
abbrev Gone := List Bool × List Inf × Int
def eGone (x : Gone) : PyData := .tuple [.list (x.1.map .bool), .list (x.2.1.map eInf), .int x.2.2]
def sayAll : List Stg → List St → List Bool
  | s :: ss, t :: ts => (s.row t.1).says :: sayAll ss ts
  | _, _ => []
def goneL (cs : List Stg) : List St → List Bt → List Gone
  | _, [] => []
  | ts, b :: r => (sayAll cs ts, infC cs ts b.1 b.2, heldC cs (afterC cs ts b.1 b.2)) :: goneL cs (afterC cs ts b.1 b.2) r
theorem sayAll_len : ∀ {cs : List Stg} {ts : List St}, WfTs cs ts → (sayAll cs ts).length = cs.length
  | [], [], _ => rfl
  | s :: ss, t :: ts, h => by simp [sayAll, sayAll_len h.2]
  | [], _ :: _, h => h.elim
  | _ :: _, [], h => h.elim
/-- the word of a stage that reaches the one ahead, by what all have said -/
def lword (L : Nat) (said : List (List Bool)) (at_ n : Nat) : Bool := if L ≤ n then (said.getD (n - L) []).getD at_ false else false
theorem e_lword {cs : List Stg} {s : Stg} {said : List (List Bool)} {i n : Nat} {S : Sto} (hs : cs[i]? = some s) (h : s.late ≤ n → n - s.late < said.length ∧ i < (said.getD (n - s.late) []).length) :
    F_law_word [.pv (eCh cs), .pv (eSaid said), .pv (.int (i : Nat)), .pv (.int (n : Nat))] S = .ok (.pv (.bool (lword s.late said i n))) S := by
  unfold F_law_word dFun
  by_cases hl : s.late ≤ n
  · have e : ((n : Int) - (s.late : Int)) = ((n - s.late : Nat) : Int) := by omega
    obtain ⟨h1, h2⟩ := h hl
    have g1 : said[n - s.late]? = some (said.getD (n - s.late) []) := by rw [List.getD_eq_getElem?_getD, List.getElem?_eq_getElem h1]; rfl
    have i1 : liftIx (.pv (eSaid said)) (.pv (.int ((n - s.late : Nat) : Int))) S = .ok (.pv (.list ((said.getD (n - s.late) []).map .bool))) S := by rw [ix_pv, eSaid, ix_lst, List.getElem?_map, g1]; rfl
    generalize hw : said.getD (n - s.late) [] = ws at *
    have g2 : ws[i]? = some (ws.getD i false) := by rw [List.getD_eq_getElem?_getD, List.getElem?_eq_getElem h2]; rfl
    have i2 : liftIx (.pv (.list (ws.map .bool))) (.pv (.int (i : Nat))) S = .ok (.pv (.bool (ws.getD i false))) S := by rw [ix_pv, ix_lst, List.getElem?_map, g2]; rfl
    have hge : opGe (.int ((n - s.late : Nat) : Int)) (.int 0) = some (.bool true) := by simp [opGe]
    simp only [List.map_cons, List.map_nil, List.replicate, List.cons_append, List.nil_append, List.length_cons, List.length_nil, Nat.reduceSub, Nat.reduceAdd, ite_true, ap_Seq, ap_Set, ap_d2, ap_Nm, ap_Ix, ap_C, List.getElem?_cons_zero, List.getElem?_cons_succ, Res.bind_ok, ix_ch hs, ix_stg0, l2_pv, opSub, e, Res.s_ok, SR.next?_next, List.set_cons_succ, List.set_cons_zero, ap_Ret, ap_If, ap_Tst, hge, bl_pv, i1, i2, dEnd_ret, leave_pv, List.take_length, lword, hl, hw]
  · have hge : opGe (.int ((n : Int) - (s.late : Int))) (.int 0) = some (.bool false) := by simp [opGe]; omega
    simp only [List.map_cons, List.map_nil, List.replicate, List.cons_append, List.nil_append, List.length_cons, List.length_nil, Nat.reduceSub, Nat.reduceAdd, ite_true, ap_Seq, ap_Set, ap_d2, ap_Nm, ap_Ix, ap_C, List.getElem?_cons_zero, List.getElem?_cons_succ, Res.bind_ok, ix_ch hs, ix_stg0, l2_pv, opSub, Res.s_ok, SR.next?_next, List.set_cons_succ, List.set_cons_zero, ap_Ret, ap_If, ap_Tst, hge, bl_pv, Bool.false_eq_true, ite_false, dEnd_ret, leave_pv, List.take_length, lword, hl]
/-- the last words, by what was said -/
def wordsH (L : Nat) (h : List Bool) : List Bool := (List.replicate L false ++ h).drop h.length
theorem wordsH_len (L : Nat) (h : List Bool) : (wordsH L h).length = L := by simp [wordsH]
theorem wordsH_step (L : Nat) (h : List Bool) (w : Bool) : (wordsH L h ++ [w]).tail = wordsH L (h ++ [w]) := by
  unfold wordsH
  have e : (List.replicate L false ++ (h ++ [w])) = (List.replicate L false ++ h) ++ [w] := by simp
  have e2 : ((List.replicate L false ++ h) ++ [w]).drop h.length = (List.replicate L false ++ h).drop h.length ++ [w] := List.drop_append_of_le_length (by simp)
  rw [e, List.length_append, List.length_singleton, ← List.drop_drop, e2, List.drop_one]
theorem wordsH_head (L : Nat) (h : List Bool) (w : Bool) : (wordsH L h ++ [w]).headD false = if L ≤ h.length then (h ++ [w]).getD (h.length - L) false else false := by
  have e2 : (wordsH L h ++ [w]) = ((List.replicate L false ++ h) ++ [w]).drop h.length := (List.drop_append_of_le_length (by simp)).symm
  rw [e2]
  have e3 : ∀ l : List Bool, l.headD false = l.getD 0 false := fun l => by cases l <;> rfl
  rw [e3, List.getD_eq_getElem?_getD, List.getElem?_drop]
  simp only [Nat.add_zero, List.append_assoc]
  by_cases hl : L ≤ h.length
  · rw [if_pos hl, List.getElem?_append_right (by simpa using hl), List.length_replicate, List.getD_eq_getElem?_getD]
  · rw [if_neg hl, List.getElem?_append_left (by simp; omega), List.getElem?_replicate, if_pos (by omega)]
    rfl
/-- the words of a state are those that were said -/
def Hist (cs : List Stg) (ts : List St) (said : List (List Bool)) : Prop := ∀ (i : Nat) (s : Stg) (t : St), cs[i]? = some s → ts[i]? = some t → t.2 = wordsH s.late (said.map fun ws => ws.getD i false)
theorem hist_first {cs : List Stg} : Hist cs (firstC cs) [] := fun i s t h1 h2 => by
  simp only [firstC, List.getElem?_map, h1, Option.map_some, Option.some.injEq] at h2
  subst h2
  simp [first, wordsH]
theorem goC_ix : ∀ {cs : List Stg} {ts : List St} {g f : Bool} (i : Nat) {s : Stg} {t u : St}, cs[i]? = some s → ts[i]? = some t → (afterC cs ts g f)[i]? = some u → u.2 = (wordsOf s t).tail
  | s :: ss, t :: ts, g, f, 0, _, _, _, h1, h2, h3 => by
    simp at h1 h2
    subst h1 h2
    simp [afterC, goC] at h3
    subst h3
    rfl
  | s :: ss, t :: ts, g, f, i + 1, _, _, _, h1, h2, h3 => goC_ix (cs := ss) (ts := ts) i (by simpa using h1) (by simpa using h2) (by simpa [afterC, goC] using h3)
  | [], _, _, _, _, _, _, _, h1, _, _ => by simp at h1
  | _ :: _, [], _, _, _, _, _, _, _, h2, _ => by simp at h2
theorem sayAll_ix : ∀ {cs : List Stg} {ts : List St} (i : Nat) {s : Stg} {t : St}, cs[i]? = some s → ts[i]? = some t → (sayAll cs ts).getD i false = (s.row t.1).says
  | s :: ss, t :: ts, 0, _, _, h1, h2 => by
    simp at h1 h2
    subst h1 h2
    rfl
  | s :: ss, t :: ts, i + 1, _, _, h1, h2 => by
    have := sayAll_ix (cs := ss) (ts := ts) i (by simpa using h1) (by simpa using h2)
    simpa [sayAll] using this
  | [], _, _, _, _, h1, _ => by simp at h1
  | _ :: _, [], _, _, _, _, h2 => by simp at h2
theorem hist_step {cs : List Stg} {ts : List St} {said : List (List Bool)} {g f : Bool} (wt : WfTs cs ts) (w : WfC cs) (h : Hist cs ts said) : Hist cs (afterC cs ts g f) (said ++ [sayAll cs ts]) := fun i s u h1 h2 => by
  obtain ⟨s', t, e1, e2, _⟩ := wt.get i (List.getElem?_eq_some_iff.mp h1).1
  rw [h1] at e1; cases e1
  rw [goC_ix i h1 e2 h2]
  unfold wordsOf
  rw [h i s t h1 e2, ← sayAll_ix i h1 e2, wordsH_step]
  simp
theorem reach_hist {cs : List Stg} {ts : List St} {said : List (List Bool)} (h : Hist cs ts said) {i : Nat} {s : Stg} {t : St} (h1 : cs[i]? = some s) (h2 : ts[i]? = some t) : reach s t = lword s.late (said ++ [sayAll cs ts]) i said.length := by
  unfold reach wordsOf
  rw [h i s t h1 h2, ← sayAll_ix i h1 h2, wordsH_head]
  unfold lword
  simp only [List.length_map]
  split
  · rename_i hl
    have e : (said.map (fun ws => ws.getD i false) ++ [(sayAll cs ts).getD i false]) = (said ++ [sayAll cs ts]).map fun ws => ws.getD i false := by simp
    rw [e, List.getD_eq_getElem?_getD, List.getElem?_map, List.getD_eq_getElem?_getD (l := said ++ [sayAll cs ts])]
    cases hq : (said ++ [sayAll cs ts])[said.length - s.late]? with
    | none => rfl
    | some x => rfl
  · rfl
theorem ix_now {ts : List St} {i : Nat} {t : St} {S : Sto} (h : ts[i]? = some t) : liftIx (.pv (eNow ts)) (.pv (.int (i : Nat))) S = .ok (.pv (.int (t.1 : Nat))) S := by
  rw [ix_pv, eNow, ix_lst, List.getElem?_map, h]; rfl
theorem zipIdx_map {α : Type} {cs : List Stg} {ts : List St} {F : Stg → St → α} : ∀ {ss : List Stg} {us pre : List St} , WfTs ss us → ts = pre ++ us → (ss.zipIdx pre.length).map (fun p => F p.1 (ts.getD p.2 default)) = (ss.zip us).map fun p => F p.1 p.2
  | [], [], _, _, _ => rfl
  | s :: ss, u :: us, pre, h, e => by
    have ih := zipIdx_map (F := F) (cs := cs) (ts := ts) (ss := ss) (us := us) (pre := pre ++ [u]) h.2 (by rw [e]; simp)
    have e1 : (pre ++ [u]).length = pre.length + 1 := by simp
    rw [e1] at ih
    simp only [List.zipIdx_cons, List.map_cons, List.zip_cons_cons, ih]
    have : ts.getD pre.length default = u := by rw [e, List.getD_eq_getElem?_getD, List.getElem?_append_right (Nat.le_refl _)]; simp
    rw [this]
  | [], _ :: _, _, h, _ => h.elim
  | _ :: _, [], _, h, _ => h.elim
theorem sayAll_zip : ∀ {cs : List Stg} {ts : List St}, (cs.zip ts).map (fun p => (p.1.row p.2.1).says) = sayAll cs ts
  | [], _ => by simp [sayAll]
  | _ :: _, [] => by simp [sayAll]
  | s :: ss, t :: ts => by simp [sayAll, sayAll_zip (cs := ss) (ts := ts)]
/-- [f(stage[1][now[at]]) for at, stage in enumerate(chain)] -/
theorem lc_rows {A : DE} {ρ : En} {S : Sto} {cs : List Stg} {ts : List St} {out : Row → PyData} {c : Val} (wt : WfTs cs ts) (h4 : cs.length ≤ 10) (hc : c = .pv (eCh cs))
    (h : ∀ (i : Nat) (s : Stg) (t : St), cs[i]? = some s → ts[i]? = some t → WfT s t → A ((ρ.set 10 (some (.pv (.int (i : Nat))))).set 11 (some (.pv (eStg s)))) S = .ok (.pv (out (s.row t.1))) S) :
    loopC (gT [(gN 10), (gN 11)]) dYes A ρ ((cs.map eStg).mapIdx enumP) [] S = .ok (.pv (.list ((cs.zip ts).map fun p => out (p.1.row p.2.1)))) S := by
  have hx : (cs.map eStg).mapIdx enumP = cs.zipIdx.map fun p => enumP p.2 (eStg p.1) := by
    rw [enum_zip, List.zipIdx_map, List.map_map]; rfl
  rw [lc_gen' (keep := fun _ => true) (out := fun p : Stg × Nat => out (p.1.row (ts.getD p.2 default).1)) cs.zipIdx hx (fun p hp => by
    obtain ⟨s, i⟩ := p
    have hi : cs[i]? = some s := by
      have := List.mem_zipIdx hp
      simp at this
      rw [List.getElem?_eq_some_iff]
      exact ⟨this.1, this.2.symm⟩
    obtain ⟨s', t, e1, e2, wt', _⟩ := wt.get i (List.getElem?_eq_some_iff.mp hi).1
    rw [hi] at e1; cases e1
    refine ⟨_, by unfold enumP; rw [gT_ap, go_cons, ap_gN, Option.bind_some, go_cons, ap_gN, Option.bind_some, go_nil], rfl, fun _ => ?_⟩
    have g : ts.getD i default = t := by rw [List.getD_eq_getElem?_getD, e2]; rfl
    simp only [g]
    exact h i s t hi e2 wt') (by simp; omega)]
  rw [fil_true]
  have z := zipIdx_map (F := fun s t => out (s.row t.1)) (cs := cs) (ts := ts) (ss := cs) (us := ts) (pre := []) wt rfl
  simp only [List.length_nil] at z
  rw [z]

end Law
set_option maxHeartbeats 4000000
namespace Law
open PySem PySem.Spec PyProof.Rows L2 L2H LamX Mi
theorem held_list : ∀ {cs : List Stg} {ts : List St}, ((cs.zip ts).map fun p => (p.1.row p.2.1).held).sum = heldC cs ts := held_zip
theorem rep_now : ∀ l : List Stg, (List.replicate l.length (PyData.int 0)) = (firstC l).map fun t => .int (t.1 : Nat)
  | [] => rfl
  | a :: r => by simp only [List.length_cons, List.replicate_succ, firstC, List.map_cons]; rw [rep_now r]; rfl
theorem mul_now {cs : List Stg} (h4 : cs.length ≤ 4) : opMul (.list [.int 0]) (.int (cs.length : Nat)) = some (eNow (firstC cs)) := by
  have h := mulL [.int 0] cs.length (by omega) (by simp)
  rw [flat1, rep_now] at h
  exact h
theorem e_gone {cs : List Stg} {bs : List Bt} {S : Sto} (w : WfC cs) (h0 : cs ≠ []) (h4 : cs.length ≤ 4) (hb : bs.length ≤ 1000) :
    F_law_gone [.pv (eCh cs), .pv (eBs bs)] S = .ok (.pv (.list ((goneL cs (firstC cs) bs).map eGone))) S := by
  unfold F_law_gone
  refine sat_eqf rfl ?_
  simp only [List.map_cons, List.map_nil, List.replicate, List.cons_append, List.nil_append, Nat.reduceSub]
  have m0 := mul_now (cs := cs) h4
  refine sat_then (fun ρ S' => ρ = [some (.pv (eCh cs)), some (.pv (eBs bs)), some (.pv (eNow (firstC cs))), some (.pv (eSaid [])), some (.loc S.length), none, none, none, none, none, none, none, none, none, none, none] ∧ S' = S ++ [.lst []]) ?_ ?_
  · simp -implicitDefEqProofs [len_ch, l2_pv, m0, setA]
    rfl
  rintro ρ S0 ⟨rfl, rfl⟩
  refine sat_then (fun ρ S1 => Pre S S1 ∧ S1[S.length]? = some (.lst ((goneL cs (firstC cs) bs).map eGone)) ∧ ∃ r, ρ = some (.pv (eCh cs)) :: some (.pv (eBs bs)) :: r ∧ r[2]? = some (some (.loc S.length))) ?_ ?_
  · have key : ∀ (qs : List Bt) (n : Nat) (ts : List St) (said : List (List Bool)) (acc : List PyData) (y5 y6 y7 y8 y9 y10 y11 y12 y13 y14 y15 : Option Val) (S1 : Sto) (D : Ws), WfTs cs ts → Hist cs ts said → said.length = n → (∀ ws ∈ said, ws.length = cs.length) → n + qs.length ≤ 1000 → acc.length = n → Pre S S1 → S1[S.length]? = some (.lst acc) →
        (∀ ρ S2, Pre S S2 ∧ S2[S.length]? = some (.lst (acc ++ (goneL cs ts qs).map eGone)) ∧ (∃ r, ρ = some (.pv (eCh cs)) :: some (.pv (eBs bs)) :: r ∧ r[2]? = some (some (.loc S.length))) → D.n ρ S2) →
        (loopF (gT [(gN 5), (gT [(gN 6), (gN 7)])]) B_law_gone_1 (((qs.map eBt).zipIdx n).map fun p => enumP p.2 p.1) [some (.pv (eCh cs)), some (.pv (eBs bs)), some (.pv (eNow ts)), some (.pv (eSaid said)), some (.loc S.length), y5, y6, y7, y8, y9, y10, y11, y12, y13, y14, y15] S1).sat (fun _ _ => False) D := by
      intro qs
      induction qs with
      | nil =>
        intro n ts said acc y5 y6 y7 y8 y9 y10 y11 y12 y13 y14 y15 S1 D ht hh hn hw hz ha hp hf hd
        rw [List.map_nil, List.zipIdx_nil, List.map_nil, loop_nil]
        exact hd _ _ ⟨hp, by simpa [goneL] using hf, _, rfl, rfl⟩
      | cons b qs ih =>
        intro n ts said acc y5 y6 y7 y8 y9 y10 y11 y12 y13 y14 y15 S1 D ht hh hn hw hz ha hp hf hd
        have hlen := ht.len
        simp only [List.map_cons, List.zipIdx_cons]
        have hgo : (gT [(gN 5), (gT [(gN 6), (gN 7)])]) (enumP n (eBt b)) [some (.pv (eCh cs)), some (.pv (eBs bs)), some (.pv (eNow ts)), some (.pv (eSaid said)), some (.loc S.length), y5, y6, y7, y8, y9, y10, y11, y12, y13, y14, y15] = some [some (.pv (eCh cs)), some (.pv (eBs bs)), some (.pv (eNow ts)), some (.pv (eSaid said)), some (.loc S.length), some (.pv (.int (n : Nat))), some (.pv (.bool b.1)), some (.pv (.bool b.2)), y8, y9, y10, y11, y12, y13, y14, y15] := by
          rw [enumP, gT_ap, go_cons, ap_gN, Option.bind_some, go_cons, go_bt, Option.bind_some, go_nil]
          rfl
        refine loop_step (fun ρ S2 => ∃ y5 y6 y7 y8 y9 y10 y11 y12 y13 y14 y15, ρ = [some (.pv (eCh cs)), some (.pv (eBs bs)), some (.pv (eNow (afterC cs ts b.1 b.2))), some (.pv (eSaid (said ++ [sayAll cs ts]))), some (.loc S.length), y5, y6, y7, y8, y9, y10, y11, y12, y13, y14, y15] ∧ Pre S S2 ∧ S2[S.length]? = some (.lst (acc ++ [eGone (sayAll cs ts, infC cs ts b.1 b.2, heldC cs (afterC cs ts b.1 b.2))]))) hgo ?_ ?_
        rotate_left
        · rintro ρ2 S2 ⟨z5, z6, z7, z8, z9, z10, z11, z12, z13, z14, z15, rfl, hp2, hf2⟩
          refine ih (n + 1) (afterC cs ts b.1 b.2) (said ++ [sayAll cs ts]) _ _ _ _ _ _ _ _ _ _ _ _ S2 D (wfTs_after w ht) (hist_step ht w hh) (by simp [hn]) (fun ws hws => ?_) (by simp at hz; omega) (by simp [ha]) hp2 hf2 fun ρ S3 ⟨a1, a2, a3⟩ => hd ρ S3 ⟨a1, by rw [a2]; simp [goneL], a3⟩
          rcases List.mem_append.mp hws with z | z
          · exact hw ws z
          · simp at z; subst z; exact sayAll_len ht
        unfold B_law_gone_1
        have itC : psOf (.pv (eCh cs)) = some (cs.map eStg) := rfl
        -- said = said + [[..]]
        refine sat_then (fun ρ S2 => ρ = [some (.pv (eCh cs)), some (.pv (eBs bs)), some (.pv (eNow ts)), some (.pv (eSaid (said ++ [sayAll cs ts]))), some (.loc S.length), some (.pv (.int (n : Nat))), some (.pv (.bool b.1)), some (.pv (.bool b.2)), y8, y9, y10, y11, y12, y13, y14, y15] ∧ S2 = S1) ?_ ?_
        · have lc := lc_rows (A := dIx (dIx (dIx (dNm 11) (dC (.int 1))) (dIx (dNm 2) (dNm 10))) (dC (.int 1))) (ρ := wipeE [some (.pv (eCh cs)), some (.pv (eBs bs)), some (.pv (eNow ts)), some (.pv (eSaid said)), some (.loc S.length), some (.pv (.int (n : Nat))), some (.pv (.bool b.1)), some (.pv (.bool b.2)), y8, y9, y10, y11, y12, y13, y14, y15] [10, 11]) (S := S1) (out := fun r => .bool r.says) ht (by omega) rfl
            (fun i s t e1 e2 wt => by simp [wipeE, ix_stg, ix_now e2, ix_row wt.st, ix_row1])
          have sa : ((cs.zip ts).map fun p => PyData.bool (p.1.row p.2.1).says) = (sayAll cs ts).map .bool := by rw [← sayAll_zip, List.map_map]; rfl
          rw [sa] at lc
          rw [ap_Set, sat_s, ap_d2, sat_bind]
          simp only [ap_Nm, List.getElem?_cons_succ, List.getElem?_cons_zero, sat_ok, ap_Lst, ap_Cons, ap_Lc, ap_Enum, Res.bind_ok, itC, lc, ap_Nil, pvs_cons, pvs_nil, Option.map_some, List.length_cons, List.length_nil]
          have hz1 : szOk (0 + 1) = true := rfl
          have ad : opAdd (eSaid said) (.list [.list ((sayAll cs ts).map .bool)]) = some (eSaid (said ++ [sayAll cs ts])) := by
            unfold eSaid
            rw [addL (by simp; omega)]
            simp
          simp only [hz1, ite_true, Res.bind_ok, l2_pv, ad, sat_ok, sat_next, List.set_cons_succ, List.set_cons_zero]
          trivial
        rintro ρ S2 ⟨rfl, rfl⟩
        -- rows, later = [], []
        refine sat_then (fun ρ S3 => ρ = [some (.pv (eCh cs)), some (.pv (eBs bs)), some (.pv (eNow ts)), some (.pv (eSaid (said ++ [sayAll cs ts]))), some (.loc S.length), some (.pv (.int (n : Nat))), some (.pv (.bool b.1)), some (.pv (.bool b.2)), some (.loc S2.length), some (.loc (S2.length + 1)), y10, y11, y12, y13, y14, y15] ∧ S3 = S2 ++ [.lst []] ++ [.lst []]) ?_ ?_
        · simp
        rintro ρ S3 ⟨rfl, rfl⟩
        have in0 : In2 S2.length (S2.length + 1) [] [] (S2 ++ [.lst []] ++ [.lst []]) (S2 ++ [.lst []] ++ [.lst []]) := ⟨rfl, by simp, by simp, fun _ _ _ => rfl⟩
        generalize hS3 : S2 ++ [Ob.lst []] ++ [.lst []] = S3 at in0
        have hp3 : Pre S S3 := by rw [← hS3]; exact (hp.app _).app _
        have hl2 : S.length < S2.length := (List.getElem?_eq_some_iff.mp hf).1
        have hf3 : S3[S.length]? = some (.lst acc) := by rw [← hS3, List.append_assoc, List.getElem?_append_left hl2]; exact hf
        -- the inner loop
        refine sat_then (fun ρ S4 => In2 S2.length (S2.length + 1) ((infC cs ts b.1 b.2).map eInf) ((afterC cs ts b.1 b.2).map fun t => .int (t.1 : Nat)) S3 S4 ∧ ∃ y6 y10 y11 y12 y13 y14, ρ = [some (.pv (eCh cs)), some (.pv (eBs bs)), some (.pv (eNow ts)), some (.pv (eSaid (said ++ [sayAll cs ts]))), some (.loc S.length), some (.pv (.int (n : Nat))), y6, some (.pv (.bool b.2)), some (.loc S2.length), some (.loc (S2.length + 1)), y10, y11, y12, y13, y14, y15]) ?_ ?_
        · have ikey : ∀ (ss : List Stg) (us : List St) (pre : List Stg) (preT : List St) (R L : List PyData) (g : Bool) (y10 y11 y12 y13 y14 : Option Val) (S4 : Sto) (D : Ws), cs = pre ++ ss → ts = preT ++ us → pre.length = preT.length → WfTs ss us → WfC ss → R.length = pre.length → L.length = pre.length → In2 S2.length (S2.length + 1) R L S3 S4 →
              (∀ y6 y10 y11 y12 y13 y14 S5, In2 S2.length (S2.length + 1) (R ++ (infC ss us g b.2).map eInf) (L ++ (afterC ss us g b.2).map fun t => .int (t.1 : Nat)) S3 S5 → D.n [some (.pv (eCh cs)), some (.pv (eBs bs)), some (.pv (eNow ts)), some (.pv (eSaid (said ++ [sayAll cs ts]))), some (.loc S.length), some (.pv (.int (n : Nat))), y6, some (.pv (.bool b.2)), some (.loc S2.length), some (.loc (S2.length + 1)), y10, y11, y12, y13, y14, y15] S5) →
              (loopF (gT [(gN 10), (gN 11)]) B_law_gone_0 (((ss.map eStg).zipIdx pre.length).map fun p => enumP p.2 p.1) [some (.pv (eCh cs)), some (.pv (eBs bs)), some (.pv (eNow ts)), some (.pv (eSaid (said ++ [sayAll cs ts]))), some (.loc S.length), some (.pv (.int (n : Nat))), some (.pv (.bool g)), some (.pv (.bool b.2)), some (.loc S2.length), some (.loc (S2.length + 1)), y10, y11, y12, y13, y14, y15] S4).sat (fun _ _ => False) D := by
            intro ss
            induction ss with
            | nil =>
              intro us pre preT R L g y10 y11 y12 y13 y14 S4 D e1 e2 e3 hw' wc hR hL hin hd'
              cases us with
              | nil =>
                rw [List.map_nil, List.zipIdx_nil, List.map_nil, loop_nil]
                exact hd' _ _ _ _ _ _ _ (by simpa [infC, afterC, goC] using hin)
              | cons a b => exact hw'.elim
            | cons s ss iih =>
              intro us pre preT R L g y10 y11 y12 y13 y14 S4 D e1 e2 e3 hw' wc hR hL hin hd'
              cases us with
              | nil => exact hw'.elim
              | cons t us =>
                have c1 : cs[pre.length]? = some s := by rw [e1]; simp
                have c2 : ts[pre.length]? = some t := by rw [e2, e3]; simp
                have cl4 : pre.length + (ss.length + 1) ≤ 4 := by have := h4; rw [e1] at this; simpa using this
                simp only [List.map_cons, List.zipIdx_cons]
                -- free_so
                have fr : (dIf (dTst (d2 opLt (d2 opAdd (dNm 10) (dC (.int 1))) (dCall (b1 fLen) (dCons (dNm 0) dNil)))) (dCall F_law_word (dCons (dNm 0) (dCons (dNm 3) (dCons (d2 opAdd (dNm 10) (dC (.int 1))) (dCons (dNm 5) dNil))))) (dNm 7))
                    [some (.pv (eCh cs)), some (.pv (eBs bs)), some (.pv (eNow ts)), some (.pv (eSaid (said ++ [sayAll cs ts]))), some (.loc S.length), some (.pv (.int (n : Nat))), some (.pv (.bool g)), some (.pv (.bool b.2)), some (.loc S2.length), some (.loc (S2.length + 1)), some (.pv (.int (pre.length : Nat))), some (.pv (eStg s)), y12, y13, y14, y15] S4 = .ok (.pv (.bool (headFree ss us b.2))) S4 := by
                  have ea : ∀ S, lift2 opAdd (.pv (.int (pre.length : Nat))) (.pv (.int 1)) S = .ok (.pv (.int ((pre.length + 1 : Nat) : Int))) S := fun S => by rw [l2_pv]; simp [opAdd]
                  cases ss with
                  | nil =>
                    have hlt : opLt (.int ((pre.length + 1 : Nat) : Int)) (.int (cs.length : Nat)) = some (.bool false) := by
                      have : cs.length = pre.length + 1 := by rw [e1]; simp
                      simp [opLt, this]
                    simp only [ap_If, ap_Tst, ap_d2, ap_Nm, ap_C, ap_Call, ap_Cons, ap_Nil, List.getElem?_cons_zero, List.getElem?_cons_succ, Res.bind_ok, ea, len_ch, l2_pv, hlt, bl_pv, Bool.false_eq_true, ite_false]
                    cases us with
                    | nil => rfl
                    | cons a b => exact hw'.2.elim
                  | cons s2 ss2 =>
                    cases us with
                    | nil => exact hw'.2.elim
                    | cons t2 us2 =>
                      have d1 : cs[pre.length + 1]? = some s2 := by rw [e1, List.getElem?_append_right (by omega)]; simp
                      have d2' : ts[pre.length + 1]? = some t2 := by rw [e2, List.getElem?_append_right (by omega)]; simp [e3]
                      have hlt : opLt (.int ((pre.length + 1 : Nat) : Int)) (.int (cs.length : Nat)) = some (.bool true) := by
                        have : cs.length = pre.length + 1 + (ss2.length + 1) := by rw [e1]; simp; omega
                        simp only [opLt, Option.some.injEq, PyData.bool.injEq, decide_eq_true_eq]; omega
                      have lw := e_lword (said := said ++ [sayAll cs ts]) (n := n) (S := S4) d1 (fun hl => by
                        refine ⟨by simp [hn]; omega, ?_⟩
                        have hm : ∀ ws ∈ said ++ [sayAll cs ts], ws.length = cs.length := fun ws hws => by
                          rcases List.mem_append.mp hws with z | z
                          · exact hw ws z
                          · simp at z; subst z; exact sayAll_len ht
                        have hk : n - s2.late < (said ++ [sayAll cs ts]).length := by simp [hn]; omega
                        have e : (said ++ [sayAll cs ts]).getD (n - s2.late) [] = (said ++ [sayAll cs ts])[n - s2.late] := by rw [List.getD_eq_getElem?_getD, List.getElem?_eq_getElem hk]; rfl
                        rw [e, hm _ (List.getElem_mem hk)]
                        exact (List.getElem?_eq_some_iff.mp d1).1)
                      have rh := reach_hist hh d1 d2'
                      rw [hn] at rh
                      simp only [ap_If, ap_Tst, ap_d2, ap_Nm, ap_C, ap_Call, ap_Cons, ap_Nil, List.getElem?_cons_zero, List.getElem?_cons_succ, Res.bind_ok, ea, len_ch, l2_pv, hlt, bl_pv, ite_true, lw, headFree, rh]
                have wr := wc.hd.row hw'.1.st
                have gfe : ∀ S, ((dIf (dTst (dNm 6)) (dC (.int 2)) (dC (.int 0))) [some (.pv (eCh cs)), some (.pv (eBs bs)), some (.pv (eNow ts)), some (.pv (eSaid (said ++ [sayAll cs ts]))), some (.loc S2.length), some (.pv (.int (n : Nat))), some (.pv (.bool g))] S) = .ok (.pv (.int (if g then 2 else 0))) S := fun S => by cases g <;> rfl
                have mv : ∀ S, liftIx (.pv (.tuple ((s.row t.1).mv.map eMv))) (.pv (.int ((if g then 2 else 0) + (if headFree ss us b.2 then 1 else 0)))) S = .ok (.pv (eMv ((s.row t.1).to g (headFree ss us b.2)))) S := fun S => by
                  have e : ((if g then 2 else 0) + (if headFree ss us b.2 then 1 else 0) : Int) = ((gf g (headFree ss us b.2) : Nat) : Int) := by cases g <;> cases headFree ss us b.2 <;> rfl
                  rw [e]
                  exact ix_mv wr _ _
                have t6 : ∀ (x : Bool) (a c : Int) S, (Res.bind (blOf (.pv (.bool x)) S) fun b S1 => if b = true then Res.ok (Val.pv (.int a)) S1 else Res.ok (Val.pv (.int c)) S1) = .ok (.pv (.int (if x then a else c))) S := fun x a c S => by cases x <;> rfl
                have ap1 := app_pv (p := eInf ⟨t.1, (stepS s t g (headFree ss us b.2)).1.1, g, headFree ss us b.2, (stepS s t g (headFree ss us b.2)).2⟩) hin.fa (by omega)
                have in1 := hin.setA (A' := R ++ [eInf ⟨t.1, (stepS s t g (headFree ss us b.2)).1.1, g, headFree ss us b.2, (stepS s t g (headFree ss us b.2)).2⟩]) (by omega)
                have ap2 := app_pv (p := .int ((stepS s t g (headFree ss us b.2)).1.1 : Nat)) in1.fb (by omega)
                have in2 := in1.setB (B' := L ++ [.int ((stepS s t g (headFree ss us b.2)).1.1 : Nat)]) (by omega)
                have body : (B_law_gone_0 [some (.pv (eCh cs)), some (.pv (eBs bs)), some (.pv (eNow ts)), some (.pv (eSaid (said ++ [sayAll cs ts]))), some (.loc S.length), some (.pv (.int (n : Nat))), some (.pv (.bool g)), some (.pv (.bool b.2)), some (.loc S2.length), some (.loc (S2.length + 1)), some (.pv (.int (pre.length : Nat))), some (.pv (eStg s)), y12, y13, y14, y15] S4) =
                    .next [some (.pv (eCh cs)), some (.pv (eBs bs)), some (.pv (eNow ts)), some (.pv (eSaid (said ++ [sayAll cs ts]))), some (.loc S.length), some (.pv (.int (n : Nat))), some (.pv (.bool (stepS s t g (headFree ss us b.2)).2)), some (.pv (.bool b.2)), some (.loc S2.length), some (.loc (S2.length + 1)), some (.pv (.int (pre.length : Nat))), some (.pv (eStg s)), some (.pv (.bool (headFree ss us b.2))), some (.pv (.int ((stepS s t g (headFree ss us b.2)).1.1 : Nat))), some (.pv (.bool (stepS s t g (headFree ss us b.2)).2)), y15]
                      ((S4.set S2.length (.lst (R ++ [eInf ⟨t.1, (stepS s t g (headFree ss us b.2)).1.1, g, headFree ss us b.2, (stepS s t g (headFree ss us b.2)).2⟩]))).set (S2.length + 1) (.lst (L ++ [.int ((stepS s t g (headFree ss us b.2)).1.1 : Nat)]))) := by
                  unfold B_law_gone_0
                  rw [ap_Seq, ap_Set, fr, Res.s_ok, SR.next?_next]
                  simp only [List.set_cons_zero, List.set_cons_succ]
                  rw [ap_Seq, ap_As]
                  simp only [ap_Ix, ap_Nm, ap_C, ap_d2, ap_If, ap_Tst, List.getElem?_cons_zero, List.getElem?_cons_succ, Res.bind_ok, ix_stg, ix_now c2, ix_row hw'.1.st, ix_row2, t6, l2_pv, opAdd, mv, Res.s_ok, eMv, gT_ap, go_cons, go_nil, ap_gN, Option.bind_some, SR.next?_next, List.set_cons_zero, List.set_cons_succ]
                  rw [ap_Seq, ap_Do, ap_App]
                  have e5 : PyData.tuple [.int (t.1 : Nat), .int (((s.row t.1).to g (headFree ss us b.2)).1 : Nat), .bool g, .bool (headFree ss us b.2), .bool ((s.row t.1).to g (headFree ss us b.2)).2] = eInf ⟨t.1, (stepS s t g (headFree ss us b.2)).1.1, g, headFree ss us b.2, (stepS s t g (headFree ss us b.2)).2⟩ := rfl
                  have hz5 : szOk (0 + 1 + 1 + 1 + 1 + 1) = true := rfl
                  simp only [ap_Nm, List.getElem?_cons_zero, List.getElem?_cons_succ, Res.bind_ok, lst_at hin.fa, ite_true, ap_Tup, ap_Cons, ap_Ix, ix_now c2, ap_Nil, pvs_cons, pvs_nil, Option.map_some, List.length_cons, List.length_nil, hz5, e5, ap1, Res.s_ok, SR.next?_next]
                  rw [ap_Seq, ap_Do, ap_App]
                  have e6 : (((s.row t.1).to g (headFree ss us b.2)).1 : Int) = (((stepS s t g (headFree ss us b.2)).1.1 : Nat) : Int) := rfl
                  simp only [ap_Nm, List.getElem?_cons_zero, List.getElem?_cons_succ, Res.bind_ok, lst_at in1.fb, ite_true, e6, ap2, Res.s_ok, SR.next?_next, ap_Set, List.set_cons_zero, List.set_cons_succ]
                  rfl
                have el : (pre ++ [s]).length = pre.length + 1 := by simp
                have iih' := iih us (pre ++ [s]) (preT ++ [t]) (R ++ [eInf ⟨t.1, (stepS s t g (headFree ss us b.2)).1.1, g, headFree ss us b.2, (stepS s t g (headFree ss us b.2)).2⟩]) (L ++ [.int ((stepS s t g (headFree ss us b.2)).1.1 : Nat)]) (stepS s t g (headFree ss us b.2)).2
                rw [el] at iih'
                refine loop_next (by rw [enumP, gT_ap, go_cons, ap_gN, Option.bind_some, go_cons, ap_gN, Option.bind_some, go_nil]; rfl) body ?_
                refine iih' _ _ _ _ _ _ D (by rw [e1]; simp) (by rw [e2]; simp) (by simp [e3]) hw'.2 wc.tl (by simp [hR]) (by simp [hL]) in2 fun y6 z10 z11 z12 z13 z14 S5 h5 => hd' y6 z10 z11 z12 z13 z14 S5 ?_
                have ei : R ++ (infC (s :: ss) (t :: us) g b.2).map eInf = (R ++ [eInf ⟨t.1, (stepS s t g (headFree ss us b.2)).1.1, g, headFree ss us b.2, (stepS s t g (headFree ss us b.2)).2⟩]) ++ (infC ss us (stepS s t g (headFree ss us b.2)).2 b.2).map eInf := by simp [infC, goC]
                have ej : L ++ (afterC (s :: ss) (t :: us) g b.2).map (fun t => PyData.int (t.1 : Nat)) = (L ++ [.int ((stepS s t g (headFree ss us b.2)).1.1 : Nat)]) ++ (afterC ss us (stepS s t g (headFree ss us b.2)).2 b.2).map fun t => .int (t.1 : Nat) := by simp [afterC, goC]
                rw [ei, ej]
                exact h5
          rw [ap_For, sat_s, ap_Enum, sat_bind]
          simp only [ap_Nm, List.getElem?_cons_zero, List.getElem?_cons_succ, sat_ok, itC]
          rw [enum_zip]
          exact ikey cs ts [] [] [] [] b.1 y10 y11 y12 y13 y14 S3 _ rfl rfl rfl ht w rfl rfl in0 (fun y6 z10 z11 z12 z13 z14 S5 h5 => ⟨by simpa using h5, y6, z10, z11, z12, z13, z14, rfl⟩)
        rintro ρ S4 ⟨in4, y6, z10, z11, z12, z13, z14, rfl⟩
        -- now = later
        have g9 := in4.fb
        have g8 := in4.fa
        refine sat_then (fun ρ S5 => ρ = [some (.pv (eCh cs)), some (.pv (eBs bs)), some (.pv (eNow (afterC cs ts b.1 b.2))), some (.pv (eSaid (said ++ [sayAll cs ts]))), some (.loc S.length), some (.pv (.int (n : Nat))), y6, some (.pv (.bool b.2)), some (.loc S2.length), some (.loc (S2.length + 1)), z10, z11, z12, z13, z14, y15] ∧ S5 = S4.set (S2.length + 1) .dead) ?_ ?_
        · simp only [ap_Set, ap_Fz, List.getElem?_cons_succ, List.getElem?_cons_zero, g9, Res.s_ok, sat_next, List.set_cons_succ, List.set_cons_zero]
          exact ⟨rfl, trivial⟩
        rintro ρ S5 ⟨rfl, rfl⟩
        -- holds
        refine sat_then (fun ρ S6 => ρ = [some (.pv (eCh cs)), some (.pv (eBs bs)), some (.pv (eNow (afterC cs ts b.1 b.2))), some (.pv (eSaid (said ++ [sayAll cs ts]))), some (.loc S.length), some (.pv (.int (n : Nat))), y6, some (.pv (.bool b.2)), some (.loc S2.length), some (.loc (S2.length + 1)), z10, z11, z12, z13, z14, some (.pv (.list ((cs.zip (afterC cs ts b.1 b.2)).map fun p => .int (p.1.row p.2.1).held)))] ∧ S6 = S4.set (S2.length + 1) .dead) ?_ ?_
        · have lc := lc_rows (A := dIx (dIx (dIx (dNm 11) (dC (.int 1))) (dIx (dNm 2) (dNm 10))) (dC (.int 0))) (ρ := wipeE [some (.pv (eCh cs)), some (.pv (eBs bs)), some (.pv (eNow (afterC cs ts b.1 b.2))), some (.pv (eSaid (said ++ [sayAll cs ts]))), some (.loc S.length), some (.pv (.int (n : Nat))), y6, some (.pv (.bool b.2)), some (.loc S2.length), some (.loc (S2.length + 1)), z10, z11, z12, z13, z14, y15] [10, 11]) (S := S4.set (S2.length + 1) .dead) (out := fun r => .int r.held) (wfTs_after (g := b.1) (f := b.2) w ht) (by omega) rfl
            (fun i s t e1 e2 wt => by simp [wipeE, ix_stg, ix_now e2, ix_row wt.st, ix_row0])
          rw [ap_Set, sat_s, ap_Lc, sat_bind, ap_Enum, sat_bind]
          simp only [ap_Nm, List.getElem?_cons_succ, List.getElem?_cons_zero, sat_ok, itC, lc, sat_next, List.set_cons_succ, List.set_cons_zero]
          trivial
        rintro ρ S6 ⟨rfl, rfl⟩
        -- found.append(..)
        have gl : (S4.set (S2.length + 1) Ob.dead)[S2.length]? = some (.lst ((infC cs ts b.1 b.2).map eInf)) := by rw [List.getElem?_set_ne (by omega)]; exact g8
        have gl4 : (S4.set (S2.length + 1) Ob.dead)[S.length]? = some (.lst acc) := by rw [List.getElem?_set_ne (by omega), in4.oth _ (by omega) (by omega)]; exact hf3
        have gl5 : ((S4.set (S2.length + 1) Ob.dead).set S2.length .dead)[S.length]? = some (.lst acc) := by rw [List.getElem?_set_ne (by omega)]; exact gl4
        have lst1 : ∀ S', liftIx (.pv (eSaid (said ++ [sayAll cs ts]))) (.pv (.int (-1))) S' = .ok (.pv (.list ((sayAll cs ts).map .bool))) S' := fun S' => by
          rw [ix_pv, eSaid, ix_lstL]; simp
        have sm := sum_ints ((cs.zip (afterC cs ts b.1 b.2)).map fun p => (p.1.row p.2.1).held)
        rw [List.map_map, held_list] at sm
        have sm' : fSum (.list ((cs.zip (afterC cs ts b.1 b.2)).map fun p => .int (p.1.row p.2.1).held)) = some (.int (heldC cs (afterC cs ts b.1 b.2))) := sm
        have app := app_pv (p := eGone (sayAll cs ts, infC cs ts b.1 b.2, heldC cs (afterC cs ts b.1 b.2))) gl5 (by simp at hz; omega)
        have eg : PyData.tuple [.list ((sayAll cs ts).map .bool), .list ((infC cs ts b.1 b.2).map eInf), .int (heldC cs (afterC cs ts b.1 b.2))] = eGone (sayAll cs ts, infC cs ts b.1 b.2, heldC cs (afterC cs ts b.1 b.2)) := rfl
        have hz3 : szOk (0 + 1 + 1 + 1) = true := rfl
        rw [ap_Do, sat_s, ap_App, sat_bind]
        simp only [ap_Nm, List.getElem?_cons_succ, List.getElem?_cons_zero, sat_ok, lst_at gl4, ite_true, ap_Tup, ap_Cons, ap_Ix, ap_Neg, ap_C, Res.bind_ok, lst1, ap_Fz, gl, ap_Call, ap_Nil, b1_pv, sm', pvs_cons, pvs_nil, Option.map_some, List.length_cons, List.length_nil, hz3, eg, app, sat_next]
        have hp4 : Pre S S4 := ⟨by rw [in4.len]; exact hp3.1, fun j hj => by rw [in4.oth j (by omega) (by omega)]; exact hp3.2 j hj⟩
        refine ⟨_, _, _, _, _, _, _, _, _, _, _, rfl, ((hp4.set (by omega) _).set (by omega) _).set (Nat.le_refl _) _, ?_⟩
        rw [List.getElem?_set_self (by simp [in4.len, ← hS3]; omega)]
    rw [ap_For, sat_s, ap_Enum, sat_bind]
    simp only [ap_Nm, List.getElem?_cons_zero, List.getElem?_cons_succ, sat_ok, eBs, ps_t]
    rw [enum_zip]
    exact key bs 0 (firstC cs) [] [] none none none none none none none none none none none (S ++ [.lst []]) { n := fun ρ S1 => Pre S S1 ∧ S1[S.length]? = some (.lst ((goneL cs (firstC cs) bs).map eGone)) ∧ ∃ r, ρ = some (.pv (eCh cs)) :: some (.pv (eBs bs)) :: r ∧ r[2]? = some (some (.loc S.length)), r := fun x S1 => leave S.length x S1 = .ok (.pv (.list ((goneL cs (firstC cs) bs).map eGone))) S } (wfTs_first w) hist_first rfl (by simp) (by omega) rfl ((Pre.refl S).app _) (by simp) (fun ρ S2 h => by simpa using h)
  rintro ρ S1 ⟨hp, hf, r, rfl, hr⟩
  have e4 : (some (Val.pv (eCh cs)) :: some (Val.pv (eBs bs)) :: r)[4]? = some (some (.loc S.length)) := by simpa using hr
  rw [ap_Ret, sat_s, ap_Fz, e4]
  simp only [hf, sat_ok, sat_ret, leave_pv]
  rw [(hp.set (Nat.le_refl _) _).take]

end Law
set_option maxHeartbeats 4000000
namespace Law
open PySem PySem.Spec PyProof.Rows L2 L2H LamX Mi
def InfOk (s : Stg) (i : Inf) : Prop := i.a < s.rows.length ∧ i.b < s.rows.length
theorem e_fault {s : Stg} {i : Inf} {S : Sto} (h : InfOk s i) : F_law_fault [.pv (eStg s), .pv (eInf i)] S = .ok (.pv (eOpt (faultS s i.a i.b i.g i.f i.v))) S := by
  obtain ⟨ai, bi, g, f, v⟩ := i
  obtain ⟨ha, hb⟩ := h
  simp only at ha hb
  obtain ⟨b, eb⟩ : ∃ b, (s.row bi).held = b := ⟨_, rfl⟩
  obtain ⟨a, ea⟩ : ∃ a, (s.row ai).held = a := ⟨_, rfl⟩
  unfold F_law_fault dFun
  have t6 : ∀ (x : Bool) S', ((dIf (dTst (dC (.bool x))) (dC (.int 1)) (dC (.int 0))) [] S') = .ok (.pv (.int (b2i x))) S' := fun x S' => by cases x <;> rfl
  have fl : faultS s ai bi g f v = (if v && !f then some (Str.ofString "pushed") else if b = a + b2i g - b2i v then none else if b < a + b2i g - b2i v then some (Str.ofString "lost") else some (Str.ofString "made") : Option Str) := by
    unfold faultS
    rw [ea, eb]
  rw [fl]
  by_cases h1 : b = a + b2i g - b2i v
  · cases v <;> cases f <;> cases g <;> simp [eInf, gT_ap, go_cons, go_nil, ix_stg, ix_row ha, ix_row hb, ix_row0, ea, eb, l2_pv, opAdd, opSub, b2i, eOpt] <;> simp [b2i] at h1 <;> simp [h1]
  · by_cases h3 : b < a + b2i g - b2i v
    · cases v <;> cases f <;> cases g <;> simp [eInf, gT_ap, go_cons, go_nil, ix_stg, ix_row ha, ix_row hb, ix_row0, ea, eb, l2_pv, opAdd, opSub, opLt, b2i, eOpt] <;> simp [b2i] at h1 h3 <;> simp [h1, h3]
    · cases v <;> cases f <;> cases g <;> simp [eInf, gT_ap, go_cons, go_nil, ix_stg, ix_row ha, ix_row hb, ix_row0, ea, eb, l2_pv, opAdd, opSub, opLt, b2i, eOpt] <;> simp [b2i] at h1 h3 <;> (have h5 := Int.not_lt.mpr h3; simp [h1, h5])
def InfsOk : List Stg → List Inf → Prop
  | [], [] => True
  | s :: ss, i :: is => InfOk s i ∧ InfsOk ss is
  | _, _ => False
theorem infs_ok : ∀ {cs : List Stg} {ts : List St} {g f : Bool}, WfC cs → WfTs cs ts → InfsOk cs (infC cs ts g f)
  | [], [], _, _, _, _ => trivial
  | s :: ss, t :: ts, g, f, w, h => ⟨⟨h.1.st, (wfT_step w.hd h.1 _ _).st⟩, infs_ok w.tl h.2⟩
  | [], _ :: _, _, _, _, h => h.elim
  | _ :: _, [], _, _, _, h => h.elim
theorem getD_app {α : Type} {l r : List α} {k : Nat} {d : α} (h : k < l.length) : (l ++ r).getD k d = l.getD k d := by simp [List.getD_eq_getElem?_getD, List.getElem?_append_left h]
theorem e_first_fault {cs : List Stg} {bs : List Bt} {S : Sto} (w : WfC cs) (h0 : cs ≠ []) (h4 : cs.length ≤ 4) (hb : bs.length ≤ 1000) :
    F_law_first_fault [.pv (eCh cs), .pv (eBs bs)] S = .ok (.pv (eW3 (wrongL cs 0 (firstC cs) bs))) S := by
  unfold F_law_first_fault
  refine sat_eqf rfl ?_
  simp only [List.map_cons, List.map_nil, List.replicate, List.cons_append, List.nil_append, Nat.reduceSub]
  refine sat_then (fun ρ S2 => S2 = S ∧ wrongL cs 0 (firstC cs) bs = none) ?_ ?_
  · have ikey : ∀ (ss : List Stg) (is : List Inf) (pre : List Stg) (n : Nat) (y3 y4 y5 y6 y7 : Option Val) (D : Ws), cs = pre ++ ss → InfsOk ss is → (faultC pre.length ss is = none → ∀ y3 y4 y5 y6 y7, D.n [some (.pv (eCh cs)), some (.pv (eBs bs)), some (.pv (.int (n : Nat))), y3, y4, y5, y6, y7] S) → (∀ x, faultC pre.length ss is = some x → D.r (.pv (eW3 (some (n, x)))) S) →
        (loopF (gT [(gN 6), (gN 7)]) (dIfS (dTst (d2 opIsNot (dCall F_law_fault (dCons (dIx (dNm 0) (dNm 6)) (dCons (dNm 7) dNil))) (dC .none)))
  (dRet (dTup (dCons (dNm 2) (dCons (dNm 6) (dCons (dCall F_law_fault (dCons (dIx (dNm 0) (dNm 6)) (dCons (dNm 7) dNil))) dNil)))))
  dPass) (((is.map eInf).zipIdx pre.length).map fun p => enumP p.2 p.1) [some (.pv (eCh cs)), some (.pv (eBs bs)), some (.pv (.int (n : Nat))), y3, y4, y5, y6, y7] S).sat (fun _ _ => False) D := by
      intro ss
      induction ss with
      | nil =>
        intro is pre n y3 y4 y5 y6 y7 D e1 hi h1 h2
        cases is with
        | nil => rw [List.map_nil, List.zipIdx_nil, List.map_nil, loop_nil]; exact h1 rfl _ _ _ _ _
        | cons a b => exact hi.elim
      | cons s ss ih =>
        intro is pre n y3 y4 y5 y6 y7 D e1 hi h1 h2
        cases is with
        | nil => exact hi.elim
        | cons i is =>
          have c1 : cs[pre.length]? = some s := by rw [e1]; simp
          have ef := fun S => e_fault (S := S) hi.1
          simp only [List.map_cons, List.zipIdx_cons]
          have hg : (gT [(gN 6), (gN 7)]) (enumP pre.length (eInf i)) [some (.pv (eCh cs)), some (.pv (eBs bs)), some (.pv (.int (n : Nat))), y3, y4, y5, y6, y7] = some [some (.pv (eCh cs)), some (.pv (eBs bs)), some (.pv (.int (n : Nat))), y3, y4, y5, some (.pv (.int (pre.length : Nat))), some (.pv (eInf i))] := by
            rw [enumP, gT_ap, go_cons, ap_gN, Option.bind_some, go_cons, ap_gN, Option.bind_some, go_nil]; rfl
          cases hq : faultS s i.a i.b i.g i.f i.v with
          | none =>
            refine loop_next hg (ρ2 := [some (.pv (eCh cs)), some (.pv (eBs bs)), some (.pv (.int (n : Nat))), y3, y4, y5, some (.pv (.int (pre.length : Nat))), some (.pv (eInf i))]) (S2 := S) ?_ ?_
            · simp [ix_ch c1, ef, hq, eOpt, l2_pv, opIsNot]
            · have el : (pre ++ [s]).length = pre.length + 1 := by simp
              have ih' := ih is (pre ++ [s]) n y3 y4 y5 (some (.pv (.int (pre.length : Nat)))) (some (.pv (eInf i))) D (by rw [e1]; simp) hi.2
              rw [el] at ih'
              exact ih' (fun e => h1 (by simp only [faultC, hq]; exact e)) (fun x e => h2 x (by simp only [faultC, hq]; exact e))
          | some wd =>
            have e := h2 (pre.length, wd) (by simp only [faultC, hq])
            refine loop_step (fun _ _ => False) hg ?_ (fun _ _ z => z.elim)
            simp [ix_ch c1, ef, hq, eOpt, l2_pv, opIsNot]
            exact e
    have key : ∀ (qs : List Bt) (n : Nat) (ts : List St) (y2 y3 y4 y5 y6 y7 : Option Val) (D : Ws), WfTs cs ts → (wrongL cs n ts qs = none → ∀ ρ, D.n ρ S) → (∀ x, wrongL cs n ts qs = some x → D.r (.pv (eW3 (some x))) S) →
        (loopF (gT [(gN 2), (gT [(gN 3), (gN 4), (gN 5)])]) (dFor (dEnum (dNm 4)) (gT [(gN 6), (gN 7)])
  (dIfS (dTst (d2 opIsNot (dCall F_law_fault (dCons (dIx (dNm 0) (dNm 6)) (dCons (dNm 7) dNil))) (dC .none)))
  (dRet (dTup (dCons (dNm 2) (dCons (dNm 6) (dCons (dCall F_law_fault (dCons (dIx (dNm 0) (dNm 6)) (dCons (dNm 7) dNil))) dNil)))))
  dPass)) ((((goneL cs ts qs).map eGone).zipIdx n).map fun p => enumP p.2 p.1) [some (.pv (eCh cs)), some (.pv (eBs bs)), y2, y3, y4, y5, y6, y7] S).sat (fun _ _ => False) D := by
      intro qs
      induction qs with
      | nil => intro n ts y2 y3 y4 y5 y6 y7 D _ h1 _; simp only [goneL]; rw [List.map_nil, List.zipIdx_nil, List.map_nil, loop_nil]; exact h1 rfl _
      | cons b qs ih =>
        intro n ts y2 y3 y4 y5 y6 y7 D ht h1 h2
        simp only [goneL, List.map_cons, List.zipIdx_cons]
        have hg : (gT [(gN 2), (gT [(gN 3), (gN 4), (gN 5)])]) (enumP n (eGone (sayAll cs ts, infC cs ts b.1 b.2, heldC cs (afterC cs ts b.1 b.2)))) [some (.pv (eCh cs)), some (.pv (eBs bs)), y2, y3, y4, y5, y6, y7] =
            some [some (.pv (eCh cs)), some (.pv (eBs bs)), some (.pv (.int (n : Nat))), some (.pv (.list ((sayAll cs ts).map .bool))), some (.pv (.list ((infC cs ts b.1 b.2).map eInf))), some (.pv (.int (heldC cs (afterC cs ts b.1 b.2)))), y6, y7] := by
          rw [enumP, gT_ap, go_cons, ap_gN, Option.bind_some, go_cons, eGone, gT_ap, go_cons, ap_gN, Option.bind_some, go_cons, ap_gN, Option.bind_some, go_cons, ap_gN, Option.bind_some, go_nil]; rfl
        refine loop_step (fun ρ S2 => S2 = S ∧ wrongC cs ts b.1 b.2 = none ∧ ∃ y2 y3 y4 y5 y6 y7, ρ = [some (.pv (eCh cs)), some (.pv (eBs bs)), y2, y3, y4, y5, y6, y7]) hg ?_ ?_
        · rw [ap_For, sat_s, ap_Enum, sat_bind]
          simp only [ap_Nm, List.getElem?_cons_zero, List.getElem?_cons_succ, sat_ok, ps_l]
          rw [enum_zip]
          exact ikey cs (infC cs ts b.1 b.2) [] n _ _ _ _ _ _ rfl (infs_ok w ht) (fun e y3 y4 y5 y6 y7 => ⟨rfl, e, _, _, _, _, _, _, rfl⟩) (fun x e => h2 _ (by
            have e' : wrongC cs ts b.1 b.2 = some x := e
            simp only [wrongL, e']))
        · rintro ρ2 S2 ⟨rfl, e, z2, z3, z4, z5, z6, z7, rfl⟩
          exact ih (n + 1) _ _ _ _ _ _ _ D (wfTs_after w ht) (fun e2 => h1 (by simp only [wrongL, e]; exact e2)) (fun x e2 => h2 x (by simp only [wrongL, e]; exact e2))
    rw [ap_For, sat_s, ap_Enum, sat_bind]
    simp only [ap_Call, ap_Cons, ap_Nm, ap_Nil, List.getElem?_cons_zero, List.getElem?_cons_succ, Res.bind_ok, e_gone w h0 h4 hb, sat_ok, ps_l]
    rw [enum_zip]
    exact key bs 0 (firstC cs) none none none none none none _ (wfTs_first w) (fun e ρ => ⟨rfl, e⟩) (fun x e => by simp [e])
  rintro ρ S2 ⟨rfl, e⟩
  simp [e, eW3]
def saidL (cs : List Stg) (ts : List St) (bs : List Bt) : List (List Bool) := (goneL cs ts bs).map (·.1)
theorem saidL_len {cs : List Stg} : ∀ {bs : List Bt} {ts : List St}, (saidL cs ts bs).length = bs.length
  | [], _ => rfl
  | b :: bs, ts => by simp only [saidL, goneL, List.map_cons, List.length_cons]; rw [← saidL_len (bs := bs) (ts := afterC cs ts b.1 b.2)]; rfl
theorem saidL_mem {cs : List Stg} (w : WfC cs) : ∀ {bs : List Bt} {ts : List St}, WfTs cs ts → ∀ ws ∈ saidL cs ts bs, ws.length = cs.length
  | [], _, _, ws, h => by simp [saidL, goneL] at h
  | b :: bs, ts, ht, ws, h => by
    simp only [saidL, goneL, List.map_cons, List.mem_cons] at h
    rcases h with rfl | h
    · exact sayAll_len ht
    · exact saidL_mem w (bs := bs) (wfTs_after w ht) ws h
theorem saidL_app {cs : List Stg} : ∀ {as : List Bt} {ts : List St} {bs : List Bt}, saidL cs ts (as ++ bs) = saidL cs ts as ++ saidL cs (lastT cs ts as) bs
  | [], _, _ => rfl
  | a :: as, ts, bs => by simp only [saidL, goneL, List.cons_append, List.map_cons, lastT]; rw [← saidL, ← saidL, saidL_app]; rfl
theorem hist_last {cs : List Stg} (w : WfC cs) : ∀ {bs : List Bt} {ts : List St} {said : List (List Bool)}, WfTs cs ts → Hist cs ts said → Hist cs (lastT cs ts bs) (said ++ saidL cs ts bs)
  | [], _, _, _, h => by simpa [saidL, goneL, lastT] using h
  | b :: bs, ts, said, ht, h => by
    have ih := hist_last w (bs := bs) (wfTs_after (g := b.1) (f := b.2) w ht) (hist_step (g := b.1) (f := b.2) ht w h)
    have e : said ++ saidL cs ts (b :: bs) = said ++ [sayAll cs ts] ++ saidL cs (afterC cs ts b.1 b.2) bs := by simp [saidL, goneL]
    rw [e]
    exact ih
/-- the first stage's word, by what was said -/
theorem reachC_said {cs : List Stg} {bs : List Bt} {s : Stg} {ss : List Stg} {n : Nat} (w : WfC cs) (hc : cs = s :: ss) (hn : n < bs.length) : lword s.late (saidL cs (firstC cs) bs) 0 n = reachC cs (lastT cs (firstC cs) (bs.take n)) := by
  have ht := wfTs_last w (bs := bs.take n) (wfTs_first w)
  have hh := hist_last w (bs := bs.take n) (wfTs_first w) hist_first
  simp only [List.nil_append] at hh
  have c0 : cs[0]? = some s := by rw [hc]; rfl
  obtain ⟨s', t, e1, e2, _⟩ := ht.get 0 (by rw [hc]; simp)
  rw [c0] at e1; cases e1
  have r := reach_hist hh c0 e2
  rw [saidL_len, List.length_take, Nat.min_eq_left (by omega)] at r
  have e : reachC cs (lastT cs (firstC cs) (bs.take n)) = reach s t := by
    rw [hc] at e2 ⊢
    revert e2
    cases lastT (s :: ss) (firstC (s :: ss)) (bs.take n) with
    | nil => intro z; simp at z
    | cons a b => intro z; simp at z; subst z; rfl
  rw [e, r]
  -- both lists agree up to n
  have sp : saidL cs (firstC cs) bs = saidL cs (firstC cs) (bs.take n) ++ saidL cs (lastT cs (firstC cs) (bs.take n)) (bs.drop n) := by rw [← saidL_app, List.take_append_drop]
  have hd : ∃ r, saidL cs (lastT cs (firstC cs) (bs.take n)) (bs.drop n) = sayAll cs (lastT cs (firstC cs) (bs.take n)) :: r := by
    cases hb : bs.drop n with
    | nil => have := congrArg List.length hb; simp at this; omega
    | cons b r => exact ⟨_, rfl⟩
  obtain ⟨r', hd⟩ := hd
  rw [sp, hd]
  unfold lword
  split
  · have hl : (saidL cs (firstC cs) (bs.take n)).length = n := by rw [saidL_len, List.length_take]; omega
    have e1 : (saidL cs (firstC cs) (bs.take n) ++ sayAll cs (lastT cs (firstC cs) (bs.take n)) :: r') = (saidL cs (firstC cs) (bs.take n) ++ [sayAll cs (lastT cs (firstC cs) (bs.take n))]) ++ r' := by simp
    rw [e1, getD_app (by simp [hl]; omega)]
  · rfl
theorem lc_said {cs : List Stg} {bs : List Bt} {i : Nat} {ρ : En} {S : Sto} (hi : i < ρ.length) (hb : bs.length ≤ 1000) : loopC (gN i) dYes (dIx (dNm i) (dC (.int 0))) ρ (((goneL cs (firstC cs) bs).map eGone).map .pv) [] S = .ok (.pv (eSaid (saidL cs (firstC cs) bs))) S := by
  have hl : (goneL cs (firstC cs) bs).length = bs.length := by have := saidL_len (cs := cs) (bs := bs) (ts := firstC cs); simpa [saidL] using this
  rw [lc_gen' (keep := fun _ => true) (out := fun x : Gone => .list (x.1.map .bool)) (val := fun x => .pv (eGone x)) (goneL cs (firstC cs) bs) (by rw [List.map_map]; rfl) (fun x hx => ⟨_, rfl, rfl, fun _ => by simp [List.getElem?_set_self hi, ix_pv, eGone, ix_tup0]⟩) (by omega), fil_true]
  simp [eSaid, saidL]
theorem e_can_give {cs : List Stg} {bs : List Bt} {S : Sto} (w : WfC cs) (h0 : cs ≠ []) (h4 : cs.length ≤ 4) (hb : bs.length ≤ 900) :
    F_law_can_give [.pv (eCh cs), .pv (eBs bs)] S = .ok (.pv (.bool (reachC cs (lastT cs (firstC cs) bs)))) S := by
  obtain ⟨s, ss, hc⟩ := List.exists_cons_of_ne_nil h0
  have ad : opAdd (eBs bs) (.tuple [.tuple [.bool false, .bool false]]) = some (eBs (bs ++ [(false, false)])) := by
    unfold eBs
    rw [addT (by simp; omega)]
    simp [eBt]
  have eg := e_gone (S := S) (bs := bs ++ [(false, false)]) w h0 h4 (by simp; omega)
  have c0 : cs[0]? = some s := by rw [hc]; rfl
  have hl : (saidL cs (firstC cs) (bs ++ [(false, false)])).length = bs.length + 1 := by rw [saidL_len]; simp
  have lw := e_lword (cs := cs) (said := saidL cs (firstC cs) (bs ++ [(false, false)])) (i := 0) (n := bs.length) (S := S) c0 (fun hle => by
    have hk : bs.length - s.late < (saidL cs (firstC cs) (bs ++ [(false, false)])).length := by rw [hl]; omega
    refine ⟨hk, ?_⟩
    have e : (saidL cs (firstC cs) (bs ++ [(false, false)])).getD (bs.length - s.late) [] = (saidL cs (firstC cs) (bs ++ [(false, false)]))[bs.length - s.late] := by rw [List.getD_eq_getElem?_getD, List.getElem?_eq_getElem hk]; rfl
    rw [e, saidL_mem w (wfTs_first w) _ (List.getElem_mem hk), hc]
    simp)
  rw [reachC_said w hc (by simp)] at lw
  rw [List.take_left'  rfl] at lw
  have ln : b1 fLen [.pv (eBs bs)] S = .ok (.pv (.int (bs.length : Nat))) S := by simp [b1_pv, fLen, eBs]
  have lc := lc_said (cs := cs) (bs := bs ++ [(false, false)]) (i := 3) (ρ := wipeE [some (.pv (eCh cs)), some (.pv (eBs bs)), some (.pv (.list ((goneL cs (firstC cs) (bs ++ [(false, false)])).map eGone))), none] [3]) (S := S) (by simp [wipeE]) (by simp; omega)
  unfold F_law_can_give dFun
  simp only [List.map_cons, List.map_nil, List.replicate, List.cons_append, List.nil_append, List.length_cons, List.length_nil, Nat.reduceSub, Nat.reduceAdd, ite_true, ap_Seq, ap_Set, ap_Call, ap_Cons, ap_Nm, ap_d2, ap_Tup, ap_C, ap_Nil, List.getElem?_cons_zero, List.getElem?_cons_succ, Res.bind_ok, pvs_cons, pvs_nil, Option.map_some,
    show szOk (0 + 1 + 1) = true from rfl, show szOk (0 + 1) = true from rfl, l2_pv, ad, eg, Res.s_ok, SR.next?_next, List.set_cons_succ, List.set_cons_zero, ap_Ret, ap_Lc, ap_Items, itemsOf, lc, ln]
  rw [show (.int 0 : PyData) = .int ((0 : Nat) : Int) from rfl, lw]
  simp

end Law
set_option maxHeartbeats 4000000
namespace Law
open PySem PySem.Spec PyProof.Rows L2 L2H LamX Mi
theorem hcP_map {cs : List Stg} : ∀ {bs : List Bt} {ts : List St}, hcP cs ts (bs.map eBt) = true ↔ ∀ i (h : i < bs.length), bs[i].1 = true → reachC cs (lastT cs ts (bs.take i)) = true
  | [], ts => by simp [hcP]
  | b :: bs, ts => by
    have ih := hcP_map (cs := cs) (bs := bs) (ts := afterC cs ts b.1 b.2)
    simp only [List.map_cons, hcP, pBt_e, Bool.and_eq_true, ih]
    constructor
    · rintro ⟨h1, h2⟩ i hi hg
      cases i with
      | zero =>
        simp only [List.getElem_cons_zero] at hg
        simp only [hg, Bool.not_true, Bool.false_or] at h1
        exact h1
      | succ i => exact h2 i (by simpa using hi) (by simpa using hg)
    · intro h
      refine ⟨?_, fun i hi hg => h (i + 1) (by simpa using hi) (by simpa using hg)⟩
      have := h 0 (by simp)
      simp only [List.getElem_cons_zero, List.take_zero, lastT] at this
      cases hb : b.1 with
      | false => rfl
      | true => simpa using this hb
theorem parse_all : ∀ {ps : List PyData}, (ps.all fun p => (pBt p).isSome) = true → ∃ bs : List Bt, ps = bs.map eBt
  | [], _ => ⟨[], rfl⟩
  | p :: ps, h => by
    simp only [List.all_cons, Bool.and_eq_true] at h
    obtain ⟨bs, rfl⟩ := parse_all h.2
    obtain ⟨b, hb⟩ := Option.isSome_iff_exists.mp h.1
    exact ⟨b :: bs, by rw [pBt_some hb]; rfl⟩
theorem hcP_all {cs : List Stg} : ∀ {ps : List PyData} {ts : List St}, hcP cs ts ps = true → (ps.all fun p => (pBt p).isSome) = true
  | [], _, _ => rfl
  | p :: ps, ts, h => by
    simp only [hcP] at h
    cases hb : pBt p with
    | none => rw [hb] at h; cases h
    | some b =>
      rw [hb] at h
      simp only [Bool.and_eq_true] at h
      simp [hb, hcP_all h.2]
theorem e_bt_test {v : PyData} {r0 r1 r3 r4 r5 r6 : Option Val} {S : Sto} (hv : cl v) :
    (dSeq (dIfS (dOrT (dNotT (dTst (dIsi "tuple" (dNm 2)))) (dTst (d2 opNe (dCall (b1 fLen) (dCons (dNm 2) dNil)) (dC (.int 2)))))
  (dRet (dC (.bool false)))
  dPass)
  (dIfS (dOrT (dNotT (dTst (dIsi "bool" (dIx (dNm 2) (dC (.int 0)))))) (dNotT (dTst (dIsi "bool" (dIx (dNm 2) (dC (.int 1)))))))
  (dRet (dC (.bool false)))
  dPass)) [r0, r1, some (.pv v), r3, r4, r5, r6] S = if (pBt v).isSome = true then .next [r0, r1, some (.pv v), r3, r4, r5, r6] S else .ret (.pv (.bool false)) S := by
  cases v with
  | tuple xs =>
    match xs, hv with
    | [], hv => simp [isi_t hv, b1_pv, fLen, l2_pv, pBt]
    | [a], hv => simp [isi_t hv, b1_pv, fLen, l2_pv, pBt]
    | [a, b], hv =>
      have ha := cl_tup hv a (by simp)
      have hb := cl_tup hv b (by simp)
      cases a <;> cases b <;> simp [isi_t hv, b1_pv, fLen, l2_pv, pBt, ix_pv, ixOf, L2.atI, L2.ixN, isi_b ha, isi_b hb]
    | a :: b :: c :: r, hv =>
      have h : ((r.length : Int) + 1 + 1 + 1 == 2) = false := by simp; omega
      simp [isi_t hv, b1_pv, fLen, l2_pv, pBt, h]
  | _ => simp [isi_t hv, pBt]
theorem filt_nil {α : Type} (p : α → Bool) : ∀ l : List α, (l.filter p).isEmpty = l.all fun a => !p a
  | [] => rfl
  | a :: l => by
    simp only [List.filter_cons, List.all_cons]
    cases p a <;> simp [filt_nil p l]
theorem eq_nil_lst (l : List PyData) (hs : shp (.list l) = true) : opEq (.list l) (.list []) = some (.bool l.isEmpty) := by
  have e : PyData.eqv (.list l) (.list []) = l.isEmpty := by cases l <;> simp [PyData.eqv, PyData.eqvAll]
  have s0 : shp (.list []) = true := rfl
  simp [opEq, hs, s0, e]
theorem shp_ints (l : List Nat) : shp (.list (l.map fun i => .int (i : Nat))) = true := shp_of (by
    show PyData.canLayAll0 _ = true
    exact tup_cl fun x hx => by obtain ⟨i, _, rfl⟩ := List.mem_map.mp hx; rfl) (by
    refine Nat.succ_le_succ (tup_dp (n := 63) fun x hx => ?_)
    obtain ⟨i, _, rfl⟩ := List.mem_map.mp hx
    exact Nat.zero_le _)
theorem lastT_app {cs : List Stg} : ∀ {as : List Bt} {ts : List St} {bs : List Bt}, lastT cs ts (as ++ bs) = lastT cs (lastT cs ts as) bs
  | [], _, _ => rfl
  | a :: as, ts, bs => lastT_app (as := as)
theorem hcP_app {cs : List Stg} {as : List Bt} {b : Bt} {ts : List St} (h : hcP cs ts (as.map eBt) = true) (h2 : b.1 = true → reachC cs (lastT cs ts as) = true) : hcP cs ts ((as ++ [b]).map eBt) = true := by
  rw [hcP_map] at h ⊢
  intro i hi hg
  by_cases hl : i < as.length
  · rw [List.getElem_append_left hl] at hg
    rw [List.take_append_of_le_length (by omega)]
    exact h i hl hg
  · have e : i = as.length := by simp at hi; omega
    subst e
    rw [List.getElem_append_right (Nat.le_refl _)] at hg
    rw [List.take_left' rfl]
    exact h2 (by simpa using hg)
theorem sat_course {l : Nat} {cs : List Stg} {m : Nat} {S : Sto} {E : Str → Sto → Prop} {Q : Val → Sto → Prop} (v : Vat l S) (w : WfC cs) (h0 : cs ≠ []) (h4 : cs.length ≤ 4) (hm : m ≤ 60)
    (h : ∀ bs S', bs.length ≤ m → hcP cs (firstC cs) (bs.map eBt) = true → Nx l S S' → Q (.pv (eBs bs)) S') : (F_law_course [.loc l, .pv (eCh cs), .pv (.int (m : Nat))] S).sat E Q := by
  unfold F_law_course
  refine sat_fun rfl ?_
  simp only [List.map_cons, List.map_nil, List.replicate, List.cons_append, List.nil_append, Nat.reduceSub]
  refine sat_then (fun ρ S' => ρ = [some (.loc l), some (.pv (eCh cs)), some (.pv (.int (m : Nat))), some (.pv (eBs [])), none, none] ∧ S' = S) ?_ ?_
  · simp; rfl
  rintro ρ S' ⟨rfl, rfl⟩
  refine sat_then (fun ρ S1 => ∃ bs y4 y5, ρ = [some (.loc l), some (.pv (eCh cs)), some (.pv (.int (m : Nat))), some (.pv (eBs bs)), y4, y5] ∧ bs.length ≤ m ∧ hcP cs (firstC cs) (bs.map eBt) = true ∧ Nx l S' S1) ?_ ?_
  · rw [ap_For, sat_s, ap_Rng1, sat_bind]
    simp only [ap_Call, ap_Cons, ap_Nm, ap_d2, ap_C, ap_Nil, List.getElem?_cons_zero, List.getElem?_cons_succ, Res.bind_ok, l2_pv, opAdd]
    refine sat_under v (by omega) (by omega) fun r S1 r0 r1 nx1 => ?_
    have rg := rng_ok (S := S1) (j := r) (by omega) (by omega)
    simp only []
    rw [rg, sat_ok]
    refine for_inv (I := fun i ρ S2 => ∃ bs y4 y5, ρ = [some (.loc l), some (.pv (eCh cs)), some (.pv (.int (m : Nat))), some (.pv (eBs bs)), y4, y5] ∧ bs.length = i ∧ hcP cs (firstC cs) (bs.map eBt) = true ∧ Nx l S' S2) ⟨[], none, none, rfl, rfl, rfl, nx1⟩ (fun i x ρ S2 hx ⟨bs, y4, y5, er, hl, hc, nx⟩ => ?_) (fun ρ S2 ⟨bs, y4, y5, er, hl, hc, nx⟩ => ⟨bs, y4, y5, er, by simp at hl; omega, hc, nx⟩)
    subst er
    have hi : i < r.toNat := by
      have := (List.getElem?_eq_some_iff.mp hx).1
      simpa using this
    refine ⟨_, rfl, ?_⟩
    simp only [List.set_cons_succ, List.set_cons_zero]
    have eg := e_can_give (S := S2) (bs := bs) w h0 h4 (by omega)
    refine sat_then (fun ρ S3 => ∃ g : Bool, ρ = [some (.loc l), some (.pv (eCh cs)), some (.pv (.int (m : Nat))), some (.pv (eBs bs)), some x, some (.pv (.bool g))] ∧ (g = true → reachC cs (lastT cs (firstC cs) bs) = true) ∧ Nx l S' S3) ?_ ?_
    · simp only [ap_Set, ap_And, ap_Call, ap_Cons, ap_Nm, ap_Nil, List.getElem?_cons_zero, List.getElem?_cons_succ, Res.bind_ok, eg, bl_pv, sat_s, sat_bind]
      cases hr : reachC cs (lastT cs (firstC cs) bs) with
      | false => exact ⟨false, by simpa using nx⟩
      | true =>
        simp only [ite_true, ap_d2, ap_Call, ap_Cons, ap_Nm, ap_C, ap_Nil, List.getElem?_cons_zero, Res.bind_ok, sat_bind]
        refine sat_under nx.vat (by omega) (by omega) fun r3 S3 r30 r31 nx3 => ?_
        simp only [sat_ok, l2_pv, opGt, sat_next, List.set_cons_succ, List.set_cons_zero]
        exact ⟨_, rfl, fun _ => by first | trivial | rfl, nx.trans nx3⟩
    rintro ρ S3 ⟨g, rfl, hg, nx3⟩
    simp only [ap_Set, ap_d2, ap_Nm, ap_Tup, ap_Cons, ap_Call, ap_C, ap_Nil, List.getElem?_cons_zero, List.getElem?_cons_succ, Res.bind_ok, sat_s, sat_bind]
    refine sat_under nx3.vat (by omega) (by omega) fun r4 S4 r40 r41 nx4 => ?_
    have ad : ∀ f : Bool, opAdd (eBs bs) (.tuple [.tuple [.bool g, .bool f]]) = some (eBs (bs ++ [(g, f)])) := fun f => by
      unfold eBs
      rw [addT (by simp; omega)]
      simp [eBt]
    simp only [sat_ok, l2_pv, opEq_int, pvs_cons, pvs_nil, Option.map_some, List.length_cons, List.length_nil, show szOk (0 + 1 + 1) = true from rfl, show szOk (0 + 1) = true from rfl, ite_true, ad, sat_next, List.set_cons_succ, List.set_cons_zero]
    exact ⟨bs ++ [(g, _)], _, _, rfl, by simp [hl], hcP_app hc hg, nx3.trans nx4⟩
  rintro ρ S1 ⟨bs, y4, y5, rfl, hl, hc, nx⟩
  simp [nx.take]
  exact h bs S1 hl hc nx
theorem stOk_typed {v : PyData} (h : StOk v) : ∃ s, v = eStg s ∧ Wf s := by
  obtain ⟨late, rs, rfl, h0, h2, h1, h6, hr, hh⟩ := h
  have hm : ∀ n (ms : List PyData), (∀ m ∈ ms, MvOk n m) → ∃ mv : List (Nat × Bool), ms = mv.map eMv ∧ ∀ m ∈ mv, m.1 < n := by
    intro n ms
    induction ms with
    | nil => intro _; exact ⟨[], rfl, by simp⟩
    | cons m ms ih =>
      intro h
      obtain ⟨a, b, rfl, a0, a1⟩ := h m List.mem_cons_self
      obtain ⟨mv, rfl, hmv⟩ := ih fun x hx => h x (List.mem_cons_of_mem _ hx)
      refine ⟨(a.toNat, b) :: mv, ?_, fun x hx => ?_⟩
      · have e : ((a.toNat : Nat) : Int) = a := by omega
        simp [eMv, e]
      · rcases List.mem_cons.mp hx with rfl | hx
        · show a.toNat < n; omega
        · exact hmv x hx
  have hrow : ∀ n (rs : List PyData), (∀ r ∈ rs, RwOk n r) → ∃ rows : List Row, rs = rows.map eRow ∧ ∀ r ∈ rows, WfR n r := by
    intro n rs
    induction rs with
    | nil => intro _; exact ⟨[], rfl, by simp⟩
    | cons r rs ih =>
      intro h
      obtain ⟨hd, b, ms, rfl, g0, g6, g4, gm⟩ := h r List.mem_cons_self
      obtain ⟨rows, rfl, hrows⟩ := ih fun x hx => h x (List.mem_cons_of_mem _ hx)
      obtain ⟨mv, rfl, hmv⟩ := hm n ms gm
      refine ⟨⟨hd, b, mv⟩ :: rows, rfl, fun x hx => ?_⟩
      rcases List.mem_cons.mp hx with rfl | hx
      · exact ⟨g0, g6, by simpa using g4, hmv⟩
      · exact hrows x hx
  obtain ⟨rows, rfl, hrows⟩ := hrow rs.length rs hr
  have el : (rows.map eRow).length = rows.length := by simp
  rw [el] at hrows h1 h6
  refine ⟨⟨late.toNat, rows⟩, ?_, ⟨by show late.toNat ≤ 2; omega, h1, h6, hrows, ?_⟩⟩
  · have e : ((late.toNat : Nat) : Int) = late := by omega
    simp [eStg, e]
  · cases rows with
    | nil => simp at h1
    | cons r rr => simpa [held, eRow] using hh
theorem sat_chain {l m : Nat} {S : Sto} {E : Str → Sto → Prop} {Q : Val → Sto → Prop} (v : Vat l S) (hm : 1 ≤ m) (h4 : m ≤ 4) (h : ∀ cs S', WfC cs → cs ≠ [] → cs.length ≤ m → Nx l S S' → Q (.pv (eCh cs)) S') : (F_law_chain [.loc l, .pv (.int (m : Nat))] S).sat E Q := by
  unfold F_law_chain
  refine sat_fun rfl ?_
  simp only [List.map_cons, List.map_nil, List.replicate, List.cons_append, List.nil_append, Nat.reduceSub, ap_Ret, ap_Call, ap_Cons, ap_Nil, sat_s, sat_bind, ap_Lc, ap_Rng1, ap_d2, ap_C, ap_Nm, List.getElem?_cons_zero, List.getElem?_cons_succ, Res.bind_ok]
  refine sat_under v (by omega) (by omega) fun r S1 r0 r1 nx1 => ?_
  simp only [l2_pv, opAdd, sat_ok]
  have rg := rng_ok (S := S1) (j := 1 + r) (by omega) (by omega)
  rw [rg, sat_ok]
  have key := sat_lc (E := fun c S1 => E c (S1.take S.length)) (I := fun i acc S' => Nx l S S' ∧ ∃ cs : List Stg, acc = cs.map eStg ∧ WfC cs ∧ cs.length = i) (g := gN 2) (T := dYes) (A := dCall F_law_stage (dCons (dNm 0) dNil))
    (ρ := wipeE [some (.loc l), some (.pv (.int (m : Nat))), none] [2]) (xs := (List.range (1 + r).toNat).map fun i => Val.pv (.int (i : Nat)))
    (Q := fun a S1 => (b1 fTuple [a] S1).sat (fun c S1 => E c (S1.take S.length)) fun x S2 => (leave S.length x S2).sat E Q)
    (fun i x acc S' hx ⟨nx, cs, ea, wc, hl⟩ => ?_) (fun acc S' ⟨nx, cs, ea, wc, hl⟩ => ?_) 0 [] S1 (Nat.zero_le _) ⟨nx1, [], rfl, fun s hs => by simp at hs, rfl⟩
  · rw [List.drop_zero] at key
    exact key
  · have hi : i < (1 + r).toNat := by
      have := (List.getElem?_eq_some_iff.mp hx).1
      simpa using this
    refine ⟨_, rfl, ?_⟩
    simp only [ap_Yes, sat_ok, ite_true, wipeE, List.set_cons_succ, List.set_cons_zero, ap_Call, ap_Cons, ap_Nm, ap_Nil, List.getElem?_cons_zero, Res.bind_ok]
    refine sat_stage nx.vat fun p S2 hp nx2 => ?_
    obtain ⟨s, rfl, ws⟩ := stOk_typed hp
    refine ⟨_, rfl, by rw [ea]; simp; omega, nx.trans nx2, cs ++ [s], by rw [ea]; simp, fun x hx => ?_, by simp [hl]⟩
    rcases List.mem_append.mp hx with z | z
    · exact wc x z
    · simp at z; subst z; exact ws
  · subst ea
    simp only [b1_pv, fTuple, sat_ok, leave_pv, nx.take]
    have hl' : cs.length = (1 + r).toNat := by simpa using hl
    exact h cs S' wc (by intro z; subst z; simp at hl'; omega) (by omega) nx

end Law
set_option maxHeartbeats 4000000
namespace Law
open PySem PySem.Spec PyProof.Rows L2 L2H LamX Mi
/-- can be compared: d deep -/
def Sh (d : Nat) (v : PyData) : Prop := cl v ∧ v.depth ≤ d
theorem Sh.shp {d : Nat} {v : PyData} (h : Sh d v) (hd : d ≤ 60) : shp v = true := shp_of h.1 (by have := h.2; omega)
theorem eqv_rf {v : PyData} (h : cl v) : PyData.eqv v v = true := PySem.SeqAt.eqv_refl v h
theorem Sh.up {d d' : Nat} {v : PyData} (h : Sh d v) (hd : d ≤ d') : Sh d' v := ⟨h.1, Nat.le_trans h.2 hd⟩
theorem sh_t {d : Nat} {xs : List PyData} (h : ∀ x ∈ xs, Sh d x) : Sh (d + 1) (.tuple xs) := ⟨tup_cl fun x hx => (h x hx).1, Nat.succ_le_succ (tup_dp fun x hx => (h x hx).2)⟩
theorem sh_l {d : Nat} {xs : List PyData} (h : ∀ x ∈ xs, Sh d x) : Sh (d + 1) (.list xs) := ⟨tup_cl fun x hx => (h x hx).1, Nat.succ_le_succ (tup_dp fun x hx => (h x hx).2)⟩
theorem sh_b {d : Nat} {b : Bool} : Sh d (.bool b) := ⟨rfl, Nat.zero_le _⟩
theorem sh_i {d : Nat} {i : Int} : Sh d (.int i) := ⟨rfl, Nat.zero_le _⟩
theorem sh_n {d : Nat} : Sh d .none := ⟨rfl, Nat.zero_le _⟩
theorem sh_s {d : Nat} {x : Str} (h : PyData.strOk x = true) : Sh d (.str x) := ⟨h, Nat.zero_le _⟩
theorem Gd.sh {n d : Nat} {v : PyData} (h : Gd n d v) : Sh d v := ⟨h.cl, h.2⟩
theorem sh_st {t : St} : Sh 2 (eSt t) := sh_t fun x hx => by
  simp at hx
  rcases hx with rfl | rfl
  · exact sh_i
  · exact sh_t (d := 0) fun x hx => by obtain ⟨b, _, rfl⟩ := List.mem_map.mp hx; exact sh_b
theorem sh_ts {ts : List St} : Sh 3 (eTs ts) := sh_t fun x hx => by obtain ⟨t, _, rfl⟩ := List.mem_map.mp hx; exact sh_st
theorem sh_bt {b : Bt} : Sh 1 (eBt b) := sh_t (d := 0) fun x hx => by
  simp at hx
  rcases hx with rfl | rfl <;> exact sh_b
theorem sh_bs {bs : List Bt} : Sh 2 (eBs bs) := sh_t fun x hx => by obtain ⟨t, _, rfl⟩ := List.mem_map.mp hx; exact sh_bt
theorem ne_of {p q : PyData} {d : Nat} (hp : Sh d p) (hq : Sh d q) (hd : d ≤ 60) : opNe p q = some (.bool (!PyData.eqv p q)) := by simp [opNe, hp.shp hd, hq.shp hd]
theorem eq_of {p q : PyData} {d : Nat} (hp : Sh d p) (hq : Sh d q) (hd : d ≤ 60) : opEq p q = some (.bool (PyData.eqv p q)) := by simp [opEq, hp.shp hd, hq.shp hd]
theorem ne_self {p : PyData} {d : Nat} (hp : Sh d p) (hd : d ≤ 60) : opNe p p = some (.bool false) := by rw [ne_of hp hp hd, eqv_rf hp.1]; rfl
theorem eq_self {p : PyData} {d : Nat} (hp : Sh d p) (hd : d ≤ 60) : opEq p p = some (.bool true) := by rw [eq_of hp hp hd, eqv_rf hp.1]
def qMv (p h : Nat) (g f : Bool) : Nat × Bool := (min p (h + (if g then 1 else 0) - (if f && decide (0 < h) then 1 else 0)), f && decide (0 < h))
def qRw (p s h : Nat) : Row := ⟨(h : Nat), decide (h + s ≤ p), [qMv p h false false, qMv p h false true, qMv p h true false, qMv p h true true]⟩
def qS (p s l : Nat) : Stg := ⟨l, (List.range (p + 1)).map (qRw p s)⟩
theorem qS_row (p s h : Nat) : eRow (qRw p s h) = qRow p s h := by
  simp only [eRow, qRw, qRow, PyData.tuple.injEq, List.cons.injEq, true_and, and_true, List.map_cons, List.map_nil, PyData.bool.injEq]
  have b : decide (h + s ≤ p) = decide ((h : Int) + s ≤ p) := by
    by_cases c : h + s ≤ p
    · rw [decide_eq_true c, decide_eq_true (by omega)]
    · rw [decide_eq_false c, decide_eq_false (by omega)]
  have m : ∀ g f : Bool, eMv (qMv p h g f) = qGive p h (if g then 1 else 0) (if f then 1 else 0) := fun g f => by
    unfold eMv qMv qGive
    by_cases h0 : 0 < h
    · have h0' : (0 : Int) < h := by omega
      cases g <;> cases f <;> simp [h0, h0'] <;> (try split) <;> omega
    · have e0 : h = 0 := by omega
      subst e0
      cases g <;> cases f <;> simp <;> (try split) <;> omega
  refine ⟨b, ?_⟩
  have m1 := m false false
  have m2 := m false true
  have m3 := m true false
  have m4 := m true true
  simp only [Bool.false_eq_true, ite_false, ite_true] at m1 m2 m3 m4
  exact ⟨m1, m2, m3, m4⟩
theorem qS_e (p s l : Nat) : eStg (qS p s l) = qStage p s l := by
  unfold eStg qS qStage
  have e : ((p : Int) + 1).toNat = p + 1 := by omega
  rw [e]
  simp only [List.map_map]
  have ef : (eRow ∘ qRw p s) = fun h : Nat => qRow p s h := by
   funext h
   exact qS_row p s h
  rw [ef]
theorem wf_qS {p s l : Nat} (hp : p ≤ 5) (hl : l ≤ 2) : Wf (qS p s l) := by
  refine ⟨hl, by simp [qS], by simp [qS]; omega, fun r hr => ?_, ?_⟩
  · obtain ⟨h, hh, rfl⟩ := List.mem_map.mp hr
    have hh := List.mem_range.mp hh
    have el : (qS p s l).rows.length = p + 1 := by simp [qS]
    rw [el]
    refine ⟨by simp [qRw], by simp [qRw]; omega, rfl, fun m hm => ?_⟩
    have : ∀ g f, (qMv p h g f).1 < p + 1 := fun g f => by
      unfold qMv
      exact Nat.lt_succ_of_le (Nat.min_le_left _ _)
    simp [qRw] at hm
    rcases hm with rfl | rfl | rfl | rfl <;> exact this _ _
  · simp [qS, List.range_succ_eq_map, qRw]
theorem e_lq {p s l : Nat} {S : Sto} (hp : 1 ≤ p ∧ p ≤ 100) : F_law_queue [.pv (.int (p : Nat)), .pv (.int (s : Nat)), .pv (.int (l : Nat))] S = .ok (.pv (eStg (qS p s l))) S :=
  sat_eq (sat_lqueue ⟨by omega, by omega⟩ ⟨by rw [qS_e], rfl⟩)
theorem goneL_app {cs : List Stg} : ∀ {as : List Bt} {ts : List St} {bs : List Bt}, goneL cs ts (as ++ bs) = goneL cs ts as ++ goneL cs (lastT cs ts as) bs
  | [], _, _ => rfl
  | a :: as, ts, bs => by simp only [goneL, List.cons_append, lastT]; rw [goneL_app]
theorem inf_b : ∀ {cs : List Stg} {ts : List St} {g f : Bool}, (infC cs ts g f).map (fun i => i.b) = (afterC cs ts g f).map (fun t => t.1)
  | [], _, _, _ => by simp [infC, afterC, goC]
  | _ :: _, [], _, _ => by simp [infC, afterC, goC]
  | s :: ss, t :: ts, g, f => by
    have := inf_b (cs := ss) (ts := ts) (g := (stepS s t g (headFree ss ts f)).2) (f := f)
    simp only [infC, afterC, goC, List.map_cons] at this ⊢
    rw [this]
end Law
set_option maxHeartbeats 4000000
namespace Law
open PySem PySem.Spec PyProof.Rows L2 L2H LamX Mi
theorem e_err {P : Addr} {q : Str} {A : DE} {ρ : En} {S : Sto} {c : Str} (ht : S.any (isTab P q) = true) (ha : A ρ S = .err c none S) (hc : c ∈ cs) : dErr cs P q A ρ S = .ok (.pv (.str (nmOf c))) S := by
  unfold dErr
  rw [if_pos ht, ha]
  simp only []
  rw [if_pos hc]
theorem tab_get {S : Sto} {P : Addr} {q : Str} : S.any (isTab P q) = true ↔ ∃ j : Nat, S[j]? = some (Ob.tab P q) := by
  constructor
  · intro h
    obtain ⟨o, ho, e⟩ := List.any_eq_true.mp h
    obtain ⟨j, hj⟩ := List.mem_iff_getElem?.mp ho
    cases o with
    | tab P' q' =>
      simp only [isTab, Bool.and_eq_true, decide_eq_true_eq] at e
      obtain ⟨rfl, rfl⟩ := e
      exact ⟨j, hj⟩
    | _ => cases e
  · rintro ⟨j, hj⟩
    exact List.any_eq_true.mpr ⟨_, List.mem_of_getElem? hj, by simp [isTab]⟩
theorem Nx.tab {l : Nat} {S S' : Sto} {P : Addr} {q : Str} (n : Nx l S S') (v : Vat l S) (h : S.any (isTab P q) = true) : S'.any (isTab P q) = true := by
  obtain ⟨j, hj⟩ := tab_get.mp h
  refine tab_get.mpr ⟨j, ?_⟩
  rw [n.oth j ?_]
  · exact hj
  · intro e
    subst e
    obtain ⟨a, b, e2, _⟩ := v
    rw [hj] at e2
    cases e2
/-- all tables are there -/
def Tabs (K : PySem.W.Frag) (tf : List Str) (S : Sto) : Prop := ∀ x ∈ tf, S.any (isTab (tP K x) (lamQ x)) = true
theorem Tabs.nx {K : PySem.W.Frag} {tf : List Str} {l : Nat} {S S' : Sto} (h : Tabs K tf S) (v : Vat l S) (n : Nx l S S') : Tabs K tf S' := fun x hx => n.tab v (h x hx)
theorem Tabs.app {K : PySem.W.Frag} {tf : List Str} {S : Sto} (h : Tabs K tf S) (xs : Sto) : Tabs K tf (S ++ xs) := fun x hx => by rw [List.any_append, h x hx]; rfl
/-- a test that is False: on -/
theorem sat_no {T : DT} {A B : DS} {ρ : En} {S : Sto} {E : Str → Sto → Prop} {D : Ws} (h : T ρ S = .ok false S) (h2 : (B ρ S).sat E D) : (dIfS T A B ρ S).sat E D := by
  rw [ap_IfS, h, Res.s_ok, if_neg (by decide)]; exact h2
theorem sat_yes {T : DT} {A B : DS} {ρ : En} {S : Sto} {E : Str → Sto → Prop} {D : Ws} (h : T ρ S = .ok true S) (h2 : (A ρ S).sat E D) : (dIfS T A B ρ S).sat E D := by
  rw [ap_IfS, h, Res.s_ok, if_pos rfl]; exact h2
theorem pStage_tup {v : PyData} (h : pStage v = true) : ∃ a rs, v = .tuple [a, .tuple rs] := by
  unfold pStage at h
  split at h
  · exact ⟨_, _, rfl⟩
  · cases h

end Law
set_option maxHeartbeats 4000000
namespace Law
open PySem PySem.Spec PyProof.Rows L2 L2H LamX Mi
def nxt (s : Stg) (t : St) (b : Bt) : St := (stepS s t b.1 b.2).1
inductive Rch (s : Stg) : St → Prop
  | first : Rch s (first s)
  | step {t : St} {b : Bt} : Rch s t → b ∈ beatsS s t → Rch s (nxt s t b)
theorem Rch.wf {s : Stg} {t : St} (w : Wf s) (h : Rch s t) : WfT s t := by
  induction h with
  | first => exact wfT_first w
  | step _ _ ih => exact wfT_step w ih _ _
def okT (s : Stg) (t : St) : Bool := (beatsS s t).all fun b => (wrongS s t b.1 b.2).isNone
def GoodP (s : Stg) : Prop := ∀ t, Rch s t → okT s t = true
def allT : List St := (List.range 6).flatMap fun n => ([[], [false], [true], [false, false], [false, true], [true, false], [true, true]] : List (List Bool)).map fun w => (n, w)
theorem allT_len : allT.length = 42 := rfl
theorem mem_allT {s : Stg} {t : St} (w : Wf s) (h : WfT s t) : t ∈ allT := by
  obtain ⟨n, l⟩ := t
  have h1 : n < s.rows.length := h.st
  have h2 : l.length = s.late := h.ws
  have h3 := w.late
  have h4 := w.r6
  refine List.mem_flatMap.mpr ⟨n, List.mem_range.mpr (by omega), List.mem_map.mpr ⟨l, ?_, rfl⟩⟩
  match l, h2 with
  | [], _ => simp
  | [a], _ => cases a <;> simp
  | [a, b], _ => cases a <;> cases b <;> simp
  | a :: b :: c :: r, h2 => simp at h2; omega
theorem nodup_sub {α : Type} [DecidableEq α] : ∀ {L A : List α}, L.Nodup → (∀ x ∈ L, x ∈ A) → L.length ≤ A.length
  | [], _, _, _ => Nat.zero_le _
  | x :: L, A, nd, h => by
    have hx := h x List.mem_cons_self
    have nd' := List.nodup_cons.mp nd
    have ih := nodup_sub (L := L) (A := A.erase x) nd'.2 fun y hy => (List.mem_erase_of_ne (fun (e : y = x) => nd'.1 (by rw [← e]; exact hy))).mpr (h y (List.mem_cons_of_mem _ hy))
    have hl := List.length_erase_of_mem hx
    have hp : 0 < A.length := List.length_pos_of_mem hx
    simp only [List.length_cons]
    omega
theorem len42 {s : Stg} {L : List St} (w : Wf s) (nd : L.Nodup) (h : ∀ t ∈ L, Rch s t) : L.length ≤ 42 := by
  rw [← allT_len]
  exact nodup_sub nd fun t ht => mem_allT w ((h t ht).wf w)
abbrev SC := St × List Bt
def addM (M : List SC) (x : SC) : List SC := if (M.map (·.1)).any (fun y => decide (y = x.1)) then M else M ++ [x]
def inW (s : Stg) (t : St) (c : List Bt) : List Bt → List SC → Option (List Bt) × List SC
  | [], M => (none, M)
  | b :: r, M => if (wrongS s t b.1 b.2).isSome then (some (c ++ [b]), M) else inW s t c r (addM M (nxt s t b, c ++ [b]))
def bfsW (s : Stg) : Nat → List SC → Nat → Option (List Bt) × List SC
  | 0, M, _ => (none, M)
  | n + 1, M, i => match M[i]? with
    | none => (none, M)
    | some (t, c) => match inW s t c (beatsS s t) M with
      | (some c', M') => (some c', M')
      | (none, M') => bfsW s n M' (i + 1)
def runW (s : Stg) : Option (List Bt) × List SC := bfsW s 43 [(first s, [])] 0
def nw (s : Stg) : Bool := (runW s).1.isNone
structure InvM (s : Stg) (M : List SC) : Prop where
  rch : ∀ x ∈ M, Rch s x.1
  nd : (M.map (·.1)).Nodup
theorem any_st {L : List St} {t : St} : (L.any fun y => decide (y = t)) = true ↔ t ∈ L := by
  rw [List.any_eq_true]
  exact ⟨fun ⟨y, h, e⟩ => by have e := of_decide_eq_true e; exact e ▸ h, fun h => ⟨t, h, by simp⟩⟩
theorem addM_ext {M : List SC} {x : SC} : ∃ E, addM M x = M ++ E := by
  unfold addM
  split
  · exact ⟨[], by simp⟩
  · exact ⟨_, rfl⟩
theorem addM_mem {M : List SC} {x : SC} : x.1 ∈ (addM M x).map (·.1) := by
  unfold addM
  split
  · rename_i h; exact any_st.mp h
  · simp
theorem addM_inv {s : Stg} {M : List SC} {x : SC} (h : InvM s M) (hx : Rch s x.1) : InvM s (addM M x) := by
  unfold addM
  split
  · exact h
  · rename_i hn
    have hn : ¬ x.1 ∈ M.map (·.1) := fun z => hn (any_st.mpr z)
    refine ⟨fun y hy => ?_, ?_⟩
    · rcases List.mem_append.mp hy with hy | hy
      · exact h.rch y hy
      · simp at hy; subst hy; exact hx
    · rw [List.map_append, List.nodup_append]
      refine ⟨h.nd, by simp, fun a ha b hb e => ?_⟩
      simp at hb
      subst hb
      exact hn (e ▸ ha)
theorem inW_spec {s : Stg} {t : St} {c : List Bt} (ht : Rch s t) : ∀ (bs : List Bt) (M : List SC), (∀ b ∈ bs, b ∈ beatsS s t) → InvM s M →
    (∀ c' M', inW s t c bs M = (some c', M') → ∃ b ∈ bs, (wrongS s t b.1 b.2).isSome = true) ∧
    (∀ M', inW s t c bs M = (none, M') → InvM s M' ∧ (∃ E, M' = M ++ E) ∧ ∀ b ∈ bs, (wrongS s t b.1 b.2).isNone = true ∧ nxt s t b ∈ M'.map (·.1))
  | [], M, _, h => ⟨fun c' M' e => by simp [inW] at e, fun M' e => by simp [inW] at e; subst e; exact ⟨h, ⟨[], by simp⟩, fun b hb => by simp at hb⟩⟩
  | b :: bs, M, hb, h => by
    simp only [inW]
    cases hw : (wrongS s t b.1 b.2).isSome with
    | true =>
      simp only [ite_true]
      exact ⟨fun c' M' e => ⟨b, List.mem_cons_self, hw⟩, fun M' e => by simp at e⟩
    | false =>
      simp only [Bool.false_eq_true, ite_false]
      have hn : (wrongS s t b.1 b.2).isNone = true := by cases hq : wrongS s t b.1 b.2 <;> simp [hq] at hw ⊢
      have hr : Rch s (nxt s t b) := .step ht (hb b List.mem_cons_self)
      obtain ⟨i1, i2⟩ := inW_spec (c := c) ht bs (addM M (nxt s t b, c ++ [b])) (fun x hx => hb x (List.mem_cons_of_mem _ hx)) (addM_inv h hr)
      refine ⟨fun c' M' e => ?_, fun M' e => ?_⟩
      · obtain ⟨x, hx, e'⟩ := i1 c' M' e
        exact ⟨x, List.mem_cons_of_mem _ hx, e'⟩
      · obtain ⟨j1, ⟨E, j2⟩, j3⟩ := i2 M' e
        obtain ⟨E0, j0⟩ := addM_ext (M := M) (x := (nxt s t b, c ++ [b]))
        refine ⟨j1, ⟨E0 ++ E, by rw [j2, j0, List.append_assoc]⟩, fun x hx => ?_⟩
        rcases List.mem_cons.mp hx with rfl | hx
        · refine ⟨hn, ?_⟩
          rw [j2, List.map_append]
          exact List.mem_append_left _ (addM_mem (x := (nxt s t x, c ++ [x])))
        · exact j3 x hx
structure InvW (s : Stg) (M : List SC) (i : Nat) : Prop extends InvM s M where
  fst : first s ∈ M.map (·.1)
  le : i ≤ M.length
  done : ∀ j x, j < i → M[j]? = some x → okT s x.1 = true ∧ ∀ b ∈ beatsS s x.1, nxt s x.1 b ∈ M.map (·.1)
theorem InvM.l42 {s : Stg} {M : List SC} (w : Wf s) (h : InvM s M) : M.length ≤ 42 := by
  have := len42 w h.nd fun t ht => by
    obtain ⟨x, hx, rfl⟩ := List.mem_map.mp ht
    exact h.rch x hx
  simpa using this
theorem inv_first (s : Stg) : InvW s [(first s, [])] 0 := ⟨⟨fun x hx => by simp at hx; subst hx; exact .first, by simp⟩, by simp, by simp, fun j x hj _ => by omega⟩
theorem inv_next {s : Stg} {M M' : List SC} {i : Nat} {t : St} {c : List Bt} (h : InvW s M i) (hg : M[i]? = some (t, c)) (e : inW s t c (beatsS s t) M = (none, M')) : InvW s M' (i + 1) := by
  have ht : Rch s t := h.rch (t, c) (List.mem_of_getElem? hg)
  obtain ⟨j1, ⟨E, rfl⟩, j3⟩ := (inW_spec (c := c) ht (beatsS s t) M (fun b hb => hb) h.toInvM).2 M' e
  have hi : i < M.length := (List.getElem?_eq_some_iff.mp hg).1
  refine ⟨j1, ?_, ?_, fun j x hj hx => ?_⟩
  · rw [List.map_append]; exact List.mem_append_left _ h.fst
  · rw [List.length_append]; omega
  · rw [List.getElem?_append_left (by omega)] at hx
    by_cases hji : j < i
    · obtain ⟨d1, d2⟩ := h.done j x hji hx
      exact ⟨d1, fun b hb => by rw [List.map_append]; exact List.mem_append_left _ (d2 b hb)⟩
    · obtain rfl : j = i := by omega
      rw [hg] at hx
      cases hx
      exact ⟨List.all_eq_true.mpr fun b hb => (j3 b hb).1, fun b hb => (j3 b hb).2⟩
theorem bfsW_spec {s : Stg} (w : Wf s) : ∀ (n : Nat) (M : List SC) (i : Nat), InvW s M i → 42 < n + i →
    (∀ c' M', bfsW s n M i = (some c', M') → ∃ t, Rch s t ∧ okT s t = false) ∧ (∀ M', bfsW s n M i = (none, M') → (∀ t, Rch s t ↔ t ∈ M'.map (·.1)) ∧ GoodP s)
  | 0, M, i, h, hn => by have := h.toInvM.l42 w; have := h.le; omega
  | n + 1, M, i, h, hn => by
    simp only [bfsW]
    cases hg : M[i]? with
    | none =>
      have hi : M.length ≤ i := by simpa using hg
      have hall : ∀ t, Rch s t → t ∈ M.map (·.1) ∧ okT s t = true := by
        have key : ∀ t ∈ M.map (·.1), okT s t = true ∧ ∀ b ∈ beatsS s t, nxt s t b ∈ M.map (·.1) := fun t ht => by
          obtain ⟨x, hx, rfl⟩ := List.mem_map.mp ht
          obtain ⟨j, hj⟩ := List.mem_iff_getElem?.mp hx
          have : j < M.length := (List.getElem?_eq_some_iff.mp hj).1
          exact h.done j x (by omega) hj
        intro t ht
        induction ht with
        | first => exact ⟨h.fst, (key _ h.fst).1⟩
        | step _ hb ih =>
          have m := (key _ ih.1).2 _ hb
          exact ⟨m, (key _ m).1⟩
      refine ⟨fun c' M' e => by simp at e, fun M' e => ?_⟩
      simp at e
      subst e
      exact ⟨fun t => ⟨fun ht => (hall t ht).1, fun ht => by
        obtain ⟨x, hx, rfl⟩ := List.mem_map.mp ht
        exact h.rch x hx⟩, fun t ht => (hall t ht).2⟩
    | some x =>
      obtain ⟨t, c⟩ := x
      have ht : Rch s t := h.rch (t, c) (List.mem_of_getElem? hg)
      simp only
      cases he : inW s t c (beatsS s t) M with
      | mk o M1 =>
        cases o with
        | some c1 =>
          simp only
          refine ⟨fun c' M' e => ?_, fun M' e => by simp at e⟩
          obtain ⟨b, hb, hw⟩ := (inW_spec (c := c) ht (beatsS s t) M (fun b hb => hb) h.toInvM).1 c1 M1 he
          refine ⟨t, ht, ?_⟩
          cases hq : okT s t with
          | false => rfl
          | true =>
            have := List.all_eq_true.mp hq b hb
            cases hz : wrongS s t b.1 b.2 <;> simp [hz] at this hw
        | none =>
          simp only
          exact bfsW_spec w n M1 (i + 1) (inv_next h hg he) (by omega)
theorem runW_none {s : Stg} (w : Wf s) (h : (runW s).1 = none) : (∀ t, Rch s t ↔ t ∈ (runW s).2.map (·.1)) ∧ GoodP s := by
  have := (bfsW_spec w 43 _ 0 (inv_first s) (by omega)).2 (runW s).2 (by
    show runW s = _
    rw [← h])
  exact this
theorem nw_good {s : Stg} (w : Wf s) : nw s = true ↔ GoodP s := by
  unfold nw
  cases h : (runW s).1 with
  | none => exact ⟨fun _ => (runW_none w h).2, fun _ => rfl⟩
  | some c =>
    obtain ⟨t, ht, e⟩ := (bfsW_spec w 43 _ 0 (inv_first s) (by omega)).1 c (runW s).2 (by
      show runW s = _
      rw [← h])
    exact ⟨fun z => by simp at z, fun z => by rw [z t ht] at e; cases e⟩

theorem sat_while {T : DT} {B : DS} {E : Str → Sto → Prop} {D : Ws} {I : Nat → En → Sto → Prop}
    (h : ∀ m ρ S, I m ρ S → (T ρ S = .ok false S ∧ D.n ρ S) ∨ (T ρ S = .ok true S ∧ (B ρ S).sat E { n := fun ρ' S' => ∃ m', m' < m ∧ I m' ρ' S', c := fun ρ' S' => ∃ m', m' < m ∧ I m' ρ' S', b := D.n, r := D.r })) :
    ∀ (n m : Nat) (ρ : En) (S : Sto), I m ρ S → m < n → (dWhile n T B ρ S).sat E D
  | 0, m, ρ, S, _, hn => by omega
  | n + 1, m, ρ, S, hi, hn => by
    unfold dWhile
    simp only [loopW]
    rcases h m ρ S hi with ⟨ht, hd⟩ | ⟨ht, hb⟩
    · rw [ht, Res.s_ok, if_neg (by decide)]
      exact hd
    · rw [ht, Res.s_ok, if_pos rfl]
      revert hb
      cases B ρ S with
      | next ρ2 S2 => exact fun ⟨m', hm, hi'⟩ => sat_while h n m' ρ2 S2 hi' (by omega)
      | cnt ρ2 S2 => exact fun ⟨m', hm, hi'⟩ => sat_while h n m' ρ2 S2 hi' (by omega)
      | brk ρ2 S2 => exact fun z => z
      | ret v S2 => exact fun z => z
      | err c f ρ2 S2 => exact fun z => z
      | bad => exact fun z => z
theorem eqv_bools : ∀ a b : List Bool, PyData.eqvAll (a.map .bool) (b.map .bool) = decide (a = b)
  | [], [] => rfl
  | [], _ :: _ => rfl
  | _ :: _, [] => rfl
  | x :: a, y :: b => by
    simp only [List.map_cons, PyData.eqvAll, PyData.eqv, eqv_bools a b, List.cons.injEq]
    cases x <;> cases y <;> simp
theorem eqv_st {a b : St} : PyData.eqv (eSt a) (eSt b) = decide (a = b) := by
  obtain ⟨n, l⟩ := a
  obtain ⟨m, k⟩ := b
  simp only [eSt, eWs, PyData.eqv, PyData.eqvAll, eqv_bools, Prod.mk.injEq, Bool.and_true]
  by_cases h : n = m
  · simp [h]
  · have h' : ¬ ((n : Int) = (m : Int)) := by omega
    simp [h, h']
theorem sh_sts {L : List St} : Sh 3 (.list (L.map eSt)) := sh_l fun x hx => by obtain ⟨t, _, rfl⟩ := List.mem_map.mp hx; exact sh_st
theorem notin_st {t : St} {L : List St} : opNotIn (eSt t) (.list (L.map eSt)) = some (.bool (!(L.any fun y => decide (y = t)))) := by
  have h1 := (sh_st (t := t)).shp (by decide)
  have h2 := (sh_sts (L := L)).shp (by decide)
  have e : ((L.map eSt).any fun z => PyData.eqv z (eSt t)) = L.any fun y => decide (y = t) := by
    rw [List.any_map]
    congr 1
    funext y
    exact eqv_st
  simp [opNotIn, inOf, h1, h2, e]
def es1 (M : List SC) : PyData := .list ((M.map (·.1)).map eSt)
def es2 (M : List SC) : PyData := .list (M.map fun x => eBs x.2)
theorem ix_es1 {M : List SC} {i : Nat} {t : St} {c : List Bt} {S : Sto} (h : M[i]? = some (t, c)) : liftIx (.pv (es1 M)) (.pv (.int (i : Nat))) S = .ok (.pv (eSt t)) S := by
  rw [ix_pv, es1, ix_lst]; simp [h]
theorem ix_es2 {M : List SC} {i : Nat} {t : St} {c : List Bt} {S : Sto} (h : M[i]? = some (t, c)) : liftIx (.pv (es2 M)) (.pv (.int (i : Nat))) S = .ok (.pv (eBs c)) S := by
  rw [ix_pv, es2, ix_lst]; simp [h]
def eO : Option (List Bt) → PyData
  | none => .none
  | some c => eBs c
/-- courses grow by one in turn -/
def Crs (M : List SC) : Prop := ∀ (j : Nat) (x : SC), M[j]? = some x → x.2.length ≤ j
theorem crs_add {M : List SC} {x : SC} (h : Crs M) (hx : x.2.length ≤ M.length) : Crs (addM M x) := by
  unfold addM
  split
  · exact h
  · intro j y hy
    rcases Nat.lt_or_ge j M.length with hj | hj
    · rw [List.getElem?_append_left hj] at hy; exact h j y hy
    · rw [List.getElem?_append_right hj] at hy
      have : j - M.length = 0 := by
        have := (List.getElem?_eq_some_iff.mp hy).1
        simpa using this
      rw [this] at hy
      simp at hy
      subst hy
      omega
theorem get_ext {M E : List SC} {i : Nat} {x : SC} (h : M[i]? = some x) : (M ++ E)[i]? = some x := by
  rw [List.getElem?_append_left (List.getElem?_eq_some_iff.mp h).1]; exact h
theorem fw_inner {s : Stg} {t : St} {c : List Bt} {i : Nat} {S : Sto} {E : Str → Sto → Prop} (w : Wf s) (ht : Rch s t) : ∀ (bs : List Bt) (M : List SC) (y4 y5 y6 : Option Val) (D : Ws), (∀ b ∈ bs, b ∈ beatsS s t) → InvM s M → Crs M → M[i]? = some (t, c) →
    (∀ y4 y5 y6 M', inW s t c bs M = (none, M') → Crs M' → D.n [some (.pv (eStg s)), some (.pv (es1 M')), some (.pv (es2 M')), some (.pv (.int (i : Nat))), y4, y5, y6] S) →
    (∀ c' M', inW s t c bs M = (some c', M') → D.r (.pv (.tuple [es1 M', eBs c'])) S) →
    (loopF (gT [(gN 4), (gN 5)]) (dSeq (dIfS (dTst (d2 opIsNot (dCall F_p_wrong_word (dCons (dNm 0) (dCons (dIx (dNm 1) (dNm 3)) (dCons (dNm 4) (dCons (dNm 5) dNil))))) (dC .none)))
  (dRet (dTup (dCons (dNm 1) (dCons (d2 opAdd (dIx (dNm 2) (dNm 3)) (dTup (dCons (dTup (dCons (dNm 4) (dCons (dNm 5) dNil))) dNil))) dNil))))
  dPass)
  (dSeq (dSet 6 (dIx (dCall F_p_step (dCons (dNm 0) (dCons (dIx (dNm 1) (dNm 3)) (dCons (dNm 4) (dCons (dNm 5) dNil))))) (dC (.int 0))))
  (dIfS (dTst (d2 opNotIn (dNm 6) (dNm 1)))
  (dPar 1 2 (dCons (d2 opAdd (dNm 1) (dLst (dCons (dNm 6) dNil))) (dCons (d2 opAdd (dNm 2) (dLst (dCons (d2 opAdd (dIx (dNm 2) (dNm 3)) (dTup (dCons (dTup (dCons (dNm 4) (dCons (dNm 5) dNil))) dNil))) dNil))) dNil)))
  dPass))) ((bs.map eBt).map .pv) [some (.pv (eStg s)), some (.pv (es1 M)), some (.pv (es2 M)), some (.pv (.int (i : Nat))), y4, y5, y6] S).sat E D
  | [], M, y4, y5, y6, D, _, _, hc, _, h1, _ => by simpa [loopF] using h1 y4 y5 y6 M rfl hc
  | b :: bs, M, y4, y5, y6, D, hb, hi, hc, hg, h1, h2 => by
    have wt := ht.wf w
    have ew := e_wrong (g := b.1) (f := b.2) (S := S) w wt
    have es := e_step (g := b.1) (f := b.2) (S := S) w wt
    have l42 := hi.l42 w
    have lc : c.length ≤ i := hc i (t, c) hg
    have li : i < M.length := (List.getElem?_eq_some_iff.mp hg).1
    have ia : ∀ a d : PyData, liftIx (.pv (.tuple [a, d])) (.pv (.int 0)) S = .ok (.pv a) S := fun a d => rfl
    have i1 := ix_es1 (S := S) hg
    have i2 := ix_es2 (S := S) hg
    have ac : opAdd (eBs c) (.tuple [.tuple [.bool b.1, .bool b.2]]) = some (eBs (c ++ [b])) := by
      unfold eBs
      rw [addT (by simp; omega)]
      simp [eBt]
    have z1 : szOk (0 + 1) = true := rfl
    have z2 : szOk (0 + 1 + 1) = true := rfl
    refine loop_step (fun ρ S' => S' = S ∧ (wrongS s t b.1 b.2).isSome = false ∧ ∃ M' y4 y5 y6, M' = addM M (nxt s t b, c ++ [b]) ∧ ρ = [some (.pv (eStg s)), some (.pv (es1 M')), some (.pv (es2 M')), some (.pv (.int (i : Nat))), y4, y5, y6]) go_bt ?_ ?_
    · simp only [List.set_cons_succ, List.set_cons_zero]
      cases hw : wrongS s t b.1 b.2 with
      | some x =>
        rw [hw] at ew
        have e := h2 (c ++ [b]) M (by simp only [inW, hw, Option.isSome_some, ite_true])
        refine sat_then (fun ρ S' => False) ?_ (fun ρ S' z => z.elim)
        refine sat_yes ?_ ?_
        · simp only [ap_Tst, ap_d2, ap_Call, ap_Cons, ap_Ix, ap_Nm, ap_Nil, ap_C, List.getElem?_cons_zero, List.getElem?_cons_succ, Res.bind_ok, i1, ew, eOpt, l2_pv, opIsNot, bl_pv]
        · rw [ap_Ret, sat_s]
          simp only [ap_Tup, ap_d2, ap_Cons, ap_Ix, ap_Nm, ap_Nil, List.getElem?_cons_zero, List.getElem?_cons_succ, Res.bind_ok, i2, pvs_cons, pvs_nil, Option.map_some, List.length_cons, List.length_nil, z1, z2, ite_true, l2_pv, ac, sat_ok]
          exact e
      | none =>
        rw [hw] at ew
        refine sat_then (fun ρ S' => S' = S ∧ ρ = [some (.pv (eStg s)), some (.pv (es1 M)), some (.pv (es2 M)), some (.pv (.int (i : Nat))), some (.pv (.bool b.1)), some (.pv (.bool b.2)), y6]) ?_ ?_
        · refine sat_no ?_ ⟨rfl, rfl⟩
          simp only [ap_Tst, ap_d2, ap_Call, ap_Cons, ap_Ix, ap_Nm, ap_Nil, ap_C, List.getElem?_cons_zero, List.getElem?_cons_succ, Res.bind_ok, i1, ew, eOpt, l2_pv, opIsNot, bl_pv]
        rintro ρ S' ⟨rfl, rfl⟩
        refine sat_then (fun ρ S1 => S1 = S' ∧ ρ = [some (.pv (eStg s)), some (.pv (es1 M)), some (.pv (es2 M)), some (.pv (.int (i : Nat))), some (.pv (.bool b.1)), some (.pv (.bool b.2)), some (.pv (eSt (nxt s t b)))]) ?_ ?_
        · rw [ap_Set, sat_s]
          simp only [ap_Call, ap_Cons, ap_Ix, ap_Nm, ap_Nil, ap_C, List.getElem?_cons_zero, List.getElem?_cons_succ, Res.bind_ok, i1, es, ia, sat_ok, sat_next, List.set_cons_succ, List.set_cons_zero]
          first | trivial | exact ⟨rfl, rfl⟩
        rintro ρ S1 ⟨rfl, rfl⟩
        have ni := notin_st (t := nxt s t b) (L := M.map (·.1))
        cases hk : (M.map (·.1)).any fun y => decide (y = nxt s t b) with
        | true =>
          rw [hk] at ni
          refine sat_no ?_ ⟨rfl, rfl, M, _, _, _, by unfold addM; rw [if_pos hk], rfl⟩
          simp only [ap_Tst, ap_d2, ap_Nm, List.getElem?_cons_zero, List.getElem?_cons_succ, Res.bind_ok, l2_pv, es1, ni, bl_pv, Bool.not_true]
        | false =>
          rw [hk] at ni
          have a1 : opAdd (es1 M) (.list [eSt (nxt s t b)]) = some (es1 (M ++ [(nxt s t b, c ++ [b])])) := by
            unfold es1
            rw [addL (by simp; omega)]
            simp
          have a2 : opAdd (es2 M) (.list [eBs (c ++ [b])]) = some (es2 (M ++ [(nxt s t b, c ++ [b])])) := by
            unfold es2
            rw [addL (by simp; omega)]
            simp
          refine sat_yes ?_ ?_
          · simp only [ap_Tst, ap_d2, ap_Nm, List.getElem?_cons_zero, List.getElem?_cons_succ, Res.bind_ok, l2_pv, es1, ni, bl_pv, Bool.not_false]
          · rw [ap_Par, sat_s]
            simp only [ap_Cons, ap_d2, ap_Lst, ap_Tup, ap_Ix, ap_Nm, ap_Nil, List.getElem?_cons_zero, List.getElem?_cons_succ, Res.bind_ok, i2, pvs_cons, pvs_nil, Option.map_some, List.length_cons, List.length_nil, z1, z2, ite_true, l2_pv, ac, a1, a2, sat_ok, sat_next, List.set_cons_succ, List.set_cons_zero]
            exact ⟨trivial, rfl, _, _, _, _, by unfold addM; rw [if_neg (by simp [hk])], rfl⟩
    · rintro ρ S' ⟨rfl, hw, M', z4, z5, z6, hM, rfl⟩
      obtain ⟨E0, j0⟩ := addM_ext (M := M) (x := (nxt s t b, c ++ [b]))
      have hr : Rch s (nxt s t b) := .step ht (hb b List.mem_cons_self)
      subst hM
      refine fw_inner w ht bs _ z4 z5 z6 D (fun x hx => hb x (List.mem_cons_of_mem _ hx)) (addM_inv hi hr) (crs_add hc (by simp; omega)) (by rw [j0]; exact get_ext hg) (fun y4 y5 y6 M' e => h1 y4 y5 y6 M' (by simp only [inW, hw, Bool.false_eq_true, ite_false]; exact e)) (fun c' M' e => h2 c' M' (by simp only [inW, hw, Bool.false_eq_true, ite_false]; exact e))

end Law
set_option maxHeartbeats 4000000
namespace Law
open PySem PySem.Spec PyProof.Rows L2 L2H LamX Mi
theorem e_found_wrong {s : Stg} {S : Sto} (w : Wf s) : F_p_found_wrong [.pv (eStg s)] S = .ok (.pv (.tuple [es1 (runW s).2, eO (runW s).1])) S := by
  unfold F_p_found_wrong
  refine sat_eqf rfl ?_
  simp only [List.map_cons, List.map_nil, List.replicate, List.cons_append, List.nil_append, Nat.reduceSub]
  refine sat_then (fun ρ S' => S' = S ∧ ρ = [some (.pv (eStg s)), some (.pv (es1 [(first s, [])])), some (.pv (es2 [(first s, [])])), some (.pv (.int ((0 : Nat) : Int))), none, none, none]) ?_ ?_
  · rw [ap_Par3, sat_s]
    simp only [ap_Cons, ap_Lst, ap_Tup, ap_Call, ap_Nm, ap_Nil, ap_C, List.getElem?_cons_zero, List.getElem?_cons_succ, Res.bind_ok, e_first w, pvs_cons, pvs_nil, Option.map_some, List.length_cons, List.length_nil, show szOk 0 = true from rfl, show szOk (0 + 1) = true from rfl, ite_true, sat_ok, sat_next, List.set_cons_succ, List.set_cons_zero]
    first | trivial | exact ⟨rfl, rfl⟩
  rintro ρ S' ⟨rfl, rfl⟩
  refine sat_then (fun ρ S1 => S1 = S' ∧ (runW s).1 = none ∧ ∃ y2 y3 y4 y5 y6, ρ = [some (.pv (eStg s)), some (.pv (es1 (runW s).2)), y2, y3, y4, y5, y6]) ?_ ?_
  · refine sat_while (I := fun m ρ S1 => S1 = S' ∧ ∃ (M : List SC) (i : Nat) (y4 y5 y6 : Option Val), ρ = [some (.pv (eStg s)), some (.pv (es1 M)), some (.pv (es2 M)), some (.pv (.int (i : Nat))), y4, y5, y6] ∧ InvW s M i ∧ Crs M ∧ bfsW s (43 - i) M i = runW s ∧ m = 42 - i)
      (fun m ρ S1 ⟨e1, M, i, y4, y5, y6, e2, inv, crs, hb, e3⟩ => ?_) wh 42 _ _ ⟨rfl, _, 0, none, none, none, rfl, inv_first s, fun j x hj => by
        have : j = 0 := by
          have := (List.getElem?_eq_some_iff.mp hj).1
          simpa using this
        subst this
        simp at hj
        subst hj
        simp, rfl, rfl⟩ (by decide)
    subst e1 e2 e3
    have l42 := inv.toInvM.l42 w
    have hle := inv.le
    have ln : b1 fLen [.pv (es1 M)] S1 = .ok (.pv (.int (M.length : Nat))) S1 := by simp [b1_pv, fLen, es1]
    by_cases hi : i < M.length
    · right
      have hi' : (i : Int) < M.length := by omega
      refine ⟨?_, ?_⟩
      · simp [ln, l2_pv, opLt, hi']
      · obtain ⟨x, hg⟩ : ∃ x, M[i]? = some x := ⟨_, List.getElem?_eq_getElem hi⟩
        obtain ⟨t, c⟩ := x
        have ht : Rch s t := inv.rch (t, c) (List.mem_of_getElem? hg)
        have i1 := ix_es1 (S := S1) hg
        have eb := e_beats (S := S1) w (ht.wf w)
        obtain ⟨n, hn⟩ : ∃ n, 43 - i = n + 1 := ⟨42 - i, by omega⟩
        have hn' : 43 - (i + 1) = n := by omega
        rw [hn] at hb
        simp only [bfsW, hg] at hb
        refine sat_then (fun ρ S2 => S2 = S1 ∧ ∃ M' y4 y5 y6, inW s t c (beatsS s t) M = (none, M') ∧ Crs M' ∧ ρ = [some (.pv (eStg s)), some (.pv (es1 M')), some (.pv (es2 M')), some (.pv (.int (i : Nat))), y4, y5, y6]) ?_ ?_
        · rw [ap_For, sat_s, ap_Items, sat_bind]
          simp only [ap_Call, ap_Cons, ap_Ix, ap_Nm, ap_Nil, List.getElem?_cons_zero, List.getElem?_cons_succ, Res.bind_ok, i1, eb, sat_ok, itemsOf]
          refine fw_inner w ht (beatsS s t) M _ _ _ _ (fun b h => h) inv.toInvM crs hg (fun z4 z5 z6 M' e hc => ⟨rfl, M', z4, z5, z6, e, hc, rfl⟩) (fun c' M' e => ?_)
          rw [e] at hb
          simp only at hb
          show leave S1.length _ S1 = _
          rw [← hb]
          simp [eO]
        · rintro ρ S2 ⟨rfl, M', z4, z5, z6, e, hc, rfl⟩
          rw [e] at hb
          simp only at hb
          have inv' := inv_next inv hg e
          rw [ap_Set, sat_s]
          simp only [ap_d2, ap_Nm, ap_C, List.getElem?_cons_zero, List.getElem?_cons_succ, Res.bind_ok, l2_pv, opAdd, sat_ok, sat_next, List.set_cons_succ, List.set_cons_zero]
          exact ⟨42 - (i + 1), by omega, by first | trivial | rfl, M', i + 1, z4, z5, z6, rfl, inv', hc, by rw [hn']; exact hb, rfl⟩
    · left
      have hi' : ¬ ((i : Int) < M.length) := by omega
      refine ⟨?_, ?_⟩
      · simp [ln, l2_pv, opLt, hi']
      · obtain ⟨n, hn⟩ : ∃ n, 43 - i = n + 1 := ⟨42 - i, by omega⟩
        have hg : M[i]? = none := by simp; omega
        rw [hn] at hb
        simp only [bfsW, hg] at hb
        rw [← hb]
        exact ⟨rfl, rfl, _, _, _, _, _, rfl⟩
  rintro ρ S1 ⟨rfl, hn, y2, y3, y4, y5, y6, rfl⟩
  simp [hn, eO]
theorem e_never_wrong {s : Stg} {S : Sto} (w : Wf s) : F_p_never_wrong [.pv (eStg s)] S = .ok (.pv (.bool (nw s))) S := by
  unfold F_p_never_wrong dFun
  have ef := e_found_wrong (S := S) w
  have i1 : ∀ a b : PyData, liftIx (.pv (.tuple [a, b])) (.pv (.int 1)) S = .ok (.pv b) S := fun a b => rfl
  unfold nw
  cases h : (runW s).1 with
  | none => rw [h] at ef; simp [ef, i1, eO, l2_pv, opIs]
  | some c => rw [h] at ef; simp [ef, i1, eO, eBs, l2_pv, opIs]
theorem sat_ex {r : Res Val} {Q : Val → Sto → Prop} (h : r.sat (fun _ _ => False) Q) : ∃ v S, r = .ok v S ∧ Q v S := by
  cases r with
  | ok v S => exact ⟨v, S, rfl, h⟩
  | err c f S => exact h.elim
  | bad => exact h.elim
def addA (L : List St) (u : St) : List St := if L.any (fun y => decide (y = u)) then L else L ++ [u]
structure InvA (s : Stg) (L : List St) : Prop where
  rch : ∀ t ∈ L, Rch s t
  nd : L.Nodup
theorem addA_ext {L : List St} {u : St} : ∃ E, addA L u = L ++ E := by
  unfold addA
  split
  · exact ⟨[], by simp⟩
  · exact ⟨_, rfl⟩
theorem addA_mem {L : List St} {u : St} : u ∈ addA L u := by
  unfold addA
  split
  · rename_i h; exact any_st.mp h
  · simp
theorem addA_inv {s : Stg} {L : List St} {u : St} (h : InvA s L) (hu : Rch s u) : InvA s (addA L u) := by
  unfold addA
  split
  · exact h
  · rename_i hn
    have hn : ¬ u ∈ L := fun z => hn (any_st.mpr z)
    refine ⟨fun y hy => ?_, ?_⟩
    · rcases List.mem_append.mp hy with hy | hy
      · exact h.rch y hy
      · simp at hy; subst hy; exact hu
    · rw [List.nodup_append]
      refine ⟨h.nd, by simp, fun a ha b hb e => ?_⟩
      simp at hb
      subst hb
      exact hn (e ▸ ha)
theorem e_begin {cs : List Stg} {S : Sto} (w : WfC cs) (h4 : cs.length ≤ 10) : F_law_begin [.pv (eCh cs)] S = .ok (.pv (eTs (firstC cs))) S := by
  have lc := lc_gen' (g := gN 1) (T := dYes) (A := dTup (dCons (dC (.int 0)) (dCons (d2 opMul (dTup (dCons (dC (.bool false)) dNil)) (dIx (dNm 1) (dC (.int 0)))) dNil))) (ρ := wipeE [some (.pv (eCh cs)), none] [1]) (S := S)
    (val := fun s : Stg => Val.pv (eStg s)) (keep := fun _ => true) (out := fun s => eSt (first s)) cs (xs := (cs.map eStg).map .pv) (by simp) (fun s hs => ⟨_, rfl, rfl, fun _ => by
      have hl := (w s hs).late
      have m : opMul (.tuple [.bool false]) (.int (s.late : Nat)) = some (eWs (List.replicate s.late false)) := by
        rw [mulT [.bool false] s.late (by omega) (by simp), eWs]
        congr 2
        generalize s.late = n
        induction n with
        | zero => rfl
        | succ n ih => rw [List.replicate_succ, List.flatten_cons, ih, List.replicate_succ]; rfl
      simp only [wipeE, List.set_cons_succ, List.set_cons_zero, ap_Tup, ap_Cons, ap_C, ap_d2, ap_Ix, ap_Nm, ap_Nil, List.getElem?_cons_zero, List.getElem?_cons_succ, Res.bind_ok, pvs_cons, pvs_nil, Option.map_some, List.length_cons, List.length_nil, show szOk (0 + 1) = true from rfl, show szOk (0 + 1 + 1) = true from rfl, ite_true, ix_stg0, l2_pv, m]
      rfl⟩) (by omega)
  unfold F_law_begin dFun
  simp only [List.map_cons, List.map_nil, List.replicate, List.cons_append, List.nil_append, List.length_cons, List.length_nil, Nat.reduceSub, Nat.reduceAdd, ite_true, ap_Ret, ap_Call, ap_Cons, ap_Lc, ap_Items, ap_Nm, List.getElem?_cons_zero, Res.bind_ok, eCh, itemsOf]
  rw [eCh] at lc
  rw [lc]
  simp [b1_pv, fTuple, fil_true, eTs, firstC]
theorem e_open {cs : List Stg} {ts : List St} {S : Sto} (w : WfC cs) (h : WfTs cs ts) (h0 : cs ≠ []) : F_law_open [.pv (eCh cs), .pv (eTs ts)] S = .ok (.pv (.bool (reachC cs ts))) S := by
  cases cs with
  | nil => exact absurd rfl h0
  | cons s ss =>
    cases ts with
    | nil => exact h.elim
    | cons t ts =>
      have z := h.1.ws
      have z2 := w.hd.late
      have z3 := words_len h.1
      have ad : opAdd (eWs t.2) (.tuple [.bool (s.row t.1).says]) = some (eWs (wordsOf s t)) := by
        unfold eWs
        rw [addT (by simp; omega)]
        simp [wordsOf]
      have i0 : liftIx (.pv (eWs (wordsOf s t))) (.pv (.int 0)) S = .ok (.pv (.bool (reach s t))) S := by
        unfold reach
        cases e : wordsOf s t with
        | nil => rw [e] at z3; simp at z3
        | cons a r => simp [ix_pv, eWs, ix_tup0]
      have hr : reachC (s :: ss) (t :: ts) = reach s t := rfl
      unfold F_law_open dFun
      simp [ix_ch0, ix_ts0, ix_st1, ix_stg, ix_st0, ix_row h.1.st, ix_row1, l2_pv, ad, i0, hr]
def beatsC (cs : List Stg) (ts : List St) : List Bt := if reachC cs ts then [(false, false), (false, true), (true, false), (true, true)] else [(false, false), (false, true)]
theorem e_lbeats {cs : List Stg} {ts : List St} {S : Sto} (w : WfC cs) (h : WfTs cs ts) (h0 : cs ≠ []) : F_law_beats [.pv (eCh cs), .pv (eTs ts)] S = .ok (.pv (.list ((beatsC cs ts).map eBt))) S := by
  have eo := e_open (S := S) w h h0
  unfold F_law_beats dFun beatsC
  cases hr : reachC cs ts with
  | true => rw [hr] at eo; simp [eo, itemsOf, loopF, l2_pv, opAdd, eBt, bl_pv, show szOk 2 = true from rfl, show szOk 4 = true from rfl]
  | false => rw [hr] at eo; simp [eo, itemsOf, loopF, l2_pv, opAdd, eBt, bl_pv, show szOk 2 = true from rfl]
def badC (cs : List Stg) (ts : List St) (g f : Bool) : Bool := (wrongC cs ts g f).isSome
theorem e_law_on {cs : List Stg} {ts : List St} {g f : Bool} {S : Sto} (w : WfC cs) (h : WfTs cs ts) (h0 : cs ≠ []) (h4 : cs.length ≤ 10) :
    F_law_on [.pv (eCh cs), .pv (eTs ts), .pv (.bool g), .pv (.bool f)] S = .ok (.pv (.tuple [eTs (afterC cs ts g f), .bool (giveC cs ts g f), .bool (badC cs ts g f)])) S := by
  unfold F_law_on
  refine sat_eqf rfl ?_
  simp only [List.map_cons, List.map_nil, List.replicate, List.cons_append, List.nil_append, Nat.reduceSub]
  refine sat_then (fun ρ S' => ρ = [some (.pv (eCh cs)), some (.pv (eTs ts)), some (.pv (.bool g)), some (.pv (.bool f)), some (.loc S.length), some (.pv (.bool false)), none, none, none, none, none, none, none, none, none] ∧ S' = S ++ [.lst (([] : List St).map eSt)]) ?_ ?_
  · simp
  rintro ρ S0 ⟨rfl, rfl⟩
  refine sat_then (fun ρ S1 => S1 = S ++ [.lst ((afterC cs ts g f).map eSt)] ∧ ∃ y6 y7 y8 y9 y10 y11 y12 y13 y14, ρ = [some (.pv (eCh cs)), some (.pv (eTs ts)), some (.pv (.bool (giveC cs ts g f))), some (.pv (.bool f)), some (.loc S.length), some (.pv (.bool (badC cs ts g f))), y6, y7, y8, y9, y10, y11, y12, y13, y14]) ?_ ?_
  · have key : ∀ (ss : List Stg) (us : List St) (pre : List Stg) (preT : List St) (acc : List St) (bad : Bool) (g : Bool) (y6 y7 y8 y9 y10 y11 y12 y13 y14 : Option Val) (D : Ws), cs = pre ++ ss → ts = preT ++ us → pre.length = preT.length → WfTs ss us → WfC ss → acc.length + ss.length ≤ 10 →
        (∀ z6 z7 z8 z9 z10 z11 z12 z13 z14, D.n [some (.pv (eCh cs)), some (.pv (eTs ts)), some (.pv (.bool (giveC ss us g f))), some (.pv (.bool f)), some (.loc S.length), some (.pv (.bool (bad || (faultC pre.length ss (infC ss us g f)).isSome))), z6, z7, z8, z9, z10, z11, z12, z13, z14] (S ++ [.lst ((acc ++ afterC ss us g f).map eSt)])) →
        (loopF (gT [(gN 6), (gN 7)]) (dSeq (dSet 8 (dNm 3))
  (dSeq (dIfS (dTst (d2 opLt (d2 opAdd (dNm 6) (dC (.int 1))) (dCall (b1 fLen) (dCons (dNm 0) dNil))))
  (dSeq (dSet 9 (d2 opAdd (dIx (dIx (dNm 1) (d2 opAdd (dNm 6) (dC (.int 1)))) (dC (.int 1))) (dTup (dCons (dIx (dIx (dIx (dIx (dNm 0) (d2 opAdd (dNm 6) (dC (.int 1)))) (dC (.int 1))) (dIx (dIx (dNm 1) (d2 opAdd (dNm 6) (dC (.int 1)))) (dC (.int 0)))) (dC (.int 1))) dNil))))
  (dSet 8 (dIx (dNm 9) (dC (.int 0)))))
  dPass)
  (dSeq (dAs (gT [(gN 10), (gN 11)]) (dIx (dNm 1) (dNm 6)))
  (dSeq (dAs (gT [(gN 12), (gN 13)]) (dIx (dIx (dIx (dIx (dNm 7) (dC (.int 1))) (dNm 10)) (dC (.int 2))) (d2 opAdd (dIf (dTst (dNm 2)) (dC (.int 2)) (dC (.int 0))) (dIf (dTst (dNm 8)) (dC (.int 1)) (dC (.int 0))))))
  (dSeq (dSet 14 (dTup (dCons (dNm 10) (dCons (dNm 12) (dCons (dNm 2) (dCons (dNm 8) (dCons (dNm 13) dNil)))))))
  (dSeq (dSet 5 (dOr (dNm 5) (d2 opIsNot (dCall F_law_fault (dCons (dNm 7) (dCons (dNm 14) dNil))) (dC .none))))
  (dSeq (dDo (dApp (dNm 4) (dTup (dCons (dNm 12) (dCons (dSl (d2 opAdd (dNm 11) (dTup (dCons (dIx (dIx (dIx (dNm 7) (dC (.int 1))) (dNm 10)) (dC (.int 1))) dNil))) (dPt (dC (.int 1))) dNo) dNil)))))
  (dSet 2 (dNm 13))))))))) (((ss.map eStg).zipIdx pre.length).map fun p => enumP p.2 p.1)
          [some (.pv (eCh cs)), some (.pv (eTs ts)), some (.pv (.bool g)), some (.pv (.bool f)), some (.loc S.length), some (.pv (.bool bad)), y6, y7, y8, y9, y10, y11, y12, y13, y14] (S ++ [.lst (acc.map eSt)])).sat (fun _ _ => False) D := by
      intro ss
      induction ss with
      | nil =>
        intro us pre preT acc bad g y6 y7 y8 y9 y10 y11 y12 y13 y14 D e1 e2 e3 hw wc hf hd
        cases us with
        | nil =>
          rw [List.map_nil, List.zipIdx_nil, List.map_nil, loop_nil]
          simpa [giveC, infC, goC, lastV, afterC, faultC] using hd y6 y7 y8 y9 y10 y11 y12 y13 y14
        | cons a b => exact hw.elim
      | cons s ss ih =>
        intro us pre preT acc bad g y6 y7 y8 y9 y10 y11 y12 y13 y14 D e1 e2 e3 hw wc hf hd
        cases us with
        | nil => exact hw.elim
        | cons t us =>
          have c1 : cs[pre.length]? = some s := by rw [e1]; simp
          have c2 : ts[pre.length]? = some t := by rw [e2, e3]; simp
          obtain ⟨fs, hfs⟩ : ∃ fs, fs = headFree ss us f := ⟨_, rfl⟩
          have wt := hw.1
          have wr := wc.hd.row wt.st
          have z := words_len wt
          have z2 := wc.hd.late
          simp only [List.map_cons, List.zipIdx_cons, enumP]
          refine loop_step (fun ρ S2 => S2 = S ++ [.lst ((acc ++ [(stepS s t g fs).1]).map eSt)] ∧ ∃ y6 y7 y8 y9 y10 y11 y12 y13 y14, ρ = [some (.pv (eCh cs)), some (.pv (eTs ts)), some (.pv (.bool (stepS s t g fs).2)), some (.pv (.bool f)), some (.loc S.length), some (.pv (.bool (bad || (faultS s t.1 (stepS s t g fs).1.1 g fs (stepS s t g fs).2).isSome))), y6, y7, y8, y9, y10, y11, y12, y13, y14])
            (by rw [gT_ap, go_cons, ap_gN, Option.bind_some, go_cons, ap_gN, Option.bind_some, go_nil]) ?_ ?_
          rotate_left
          · rintro ρ S2 ⟨rfl, z6, z7, z8, z9, z10, z11, z12, z13, z14, rfl⟩
            have ih' := ih us (pre ++ [s]) (preT ++ [t]) (acc ++ [(stepS s t g fs).1]) (bad || (faultS s t.1 (stepS s t g fs).1.1 g fs (stepS s t g fs).2).isSome) (stepS s t g fs).2 z6 z7 z8 z9 z10 z11 z12 z13 z14 D (by rw [e1]; simp) (by rw [e2]; simp) (by simp [e3]) hw.2 wc.tl (by simp at hf ⊢; omega) fun z6 z7 z8 z9 z10 z11 z12 z13 z14 => by
              have e := hd z6 z7 z8 z9 z10 z11 z12 z13 z14
              have q1 : giveC (s :: ss) (t :: us) g f = giveC ss us (stepS s t g fs).2 f := by rw [hfs]; rfl
              have q2 : afterC (s :: ss) (t :: us) g f = (stepS s t g fs).1 :: afterC ss us (stepS s t g fs).2 f := by rw [hfs]; rfl
              have q3 : (faultC pre.length (s :: ss) (infC (s :: ss) (t :: us) g f)).isSome = ((faultS s t.1 (stepS s t g fs).1.1 g fs (stepS s t g fs).2).isSome || (faultC (pre ++ [s]).length ss (infC ss us (stepS s t g fs).2 f)).isSome) := by
                have q : faultC pre.length (s :: ss) (infC (s :: ss) (t :: us) g f) = (match faultS s t.1 (stepS s t g fs).1.1 g fs (stepS s t g fs).2 with | some w => some (pre.length, w) | none => faultC (pre.length + 1) ss (infC ss us (stepS s t g fs).2 f)) := by rw [hfs]; rfl
                rw [q, List.length_append, List.length_singleton]
                cases faultS s t.1 (stepS s t g fs).1.1 g fs (stepS s t g fs).2 <;> simp
              rw [q1, q2, q3, ← Bool.or_assoc] at e
              simpa using e
            rw [List.length_append, List.length_singleton] at ih'
            exact ih'
          simp only [List.set_cons_succ, List.set_cons_zero]
          refine sat_then (fun ρ S2 => S2 = S ++ [.lst (acc.map eSt)] ∧ ρ = [some (.pv (eCh cs)), some (.pv (eTs ts)), some (.pv (.bool g)), some (.pv (.bool f)), some (.loc S.length), some (.pv (.bool bad)), some (.pv (.int (pre.length : Nat))), some (.pv (eStg s)), some (.pv (.bool f)), y9, y10, y11, y12, y13, y14]) ⟨rfl, rfl⟩ ?_
          rintro ρ S2 ⟨rfl, rfl⟩
          refine sat_then (fun ρ S2 => S2 = S ++ [.lst (acc.map eSt)] ∧ ∃ y9, ρ = [some (.pv (eCh cs)), some (.pv (eTs ts)), some (.pv (.bool g)), some (.pv (.bool f)), some (.loc S.length), some (.pv (.bool bad)), some (.pv (.int (pre.length : Nat))), some (.pv (eStg s)), some (.pv (.bool fs)), y9, y10, y11, y12, y13, y14]) ?_ ?_
          · have hl : cs.length = pre.length + 1 + ss.length := by rw [e1]; simp; omega
            cases ss with
            | nil =>
              have hlt : ¬ ((pre.length : Int) + 1 < cs.length) := by rw [hl]; simp
              have ef : fs = f := by
                rw [hfs]
                cases us <;> rfl
              rw [ef]
              refine sat_no ?_ ⟨rfl, _, rfl⟩
              simp only [ap_Tst, ap_d2, ap_Call, ap_Cons, ap_C, ap_Nm, ap_Nil, List.getElem?_cons_zero, List.getElem?_cons_succ, Res.bind_ok, l2_pv, opAdd, opLt, len_ch, bl_pv, decide_eq_false hlt]
            | cons s2 ss2 =>
              cases us with
              | nil => exact hw.2.elim
              | cons t2 us2 =>
                have hlt : ((pre.length : Int) + 1 < cs.length) := by rw [hl]; simp; omega
                have w2 := hw.2.1
                have zz := words_len w2
                have zz2 := wc.tl.hd.late
                have d1 : cs[pre.length + 1]? = some s2 := by rw [e1, List.getElem?_append_right (by omega)]; simp
                have d2' : ts[pre.length + 1]? = some t2 := by rw [e2, e3, List.getElem?_append_right (by omega)]; simp
                have x1 : ∀ S, liftIx (.pv (eCh cs)) (.pv (.int ((pre.length : Int) + 1))) S = .ok (.pv (eStg s2)) S := fun S => ix_ch (i := pre.length + 1) d1
                have x2 : ∀ S, liftIx (.pv (eTs ts)) (.pv (.int ((pre.length : Int) + 1))) S = .ok (.pv (eSt t2)) S := fun S => ix_ts (i := pre.length + 1) d2'
                have ad : opAdd (eWs t2.2) (.tuple [.bool (s2.row t2.1).says]) = some (eWs (wordsOf s2 t2)) := by
                  have := w2.ws
                  unfold eWs
                  rw [addT (by simp; omega)]
                  simp [wordsOf]
                have ef : fs = reach s2 t2 := by rw [hfs]; rfl
                have i0 : ∀ S, liftIx (.pv (eWs (wordsOf s2 t2))) (.pv (.int 0)) S = .ok (.pv (.bool fs)) S := fun S => by
                  rw [ef]
                  unfold reach
                  cases e : wordsOf s2 t2 with
                  | nil => rw [e] at zz; simp at zz
                  | cons a r => simp [ix_pv, eWs, ix_tup0]
                refine sat_yes ?_ ?_
                · simp only [ap_Tst, ap_d2, ap_Call, ap_Cons, ap_C, ap_Nm, ap_Nil, List.getElem?_cons_zero, List.getElem?_cons_succ, Res.bind_ok, l2_pv, opAdd, opLt, len_ch, bl_pv, decide_eq_true hlt]
                · have pa : opAdd (.int (pre.length : Nat)) (.int 1) = some (.int ((pre.length : Int) + 1)) := rfl
                  refine sat_then (fun ρ S2 => S2 = S ++ [.lst (acc.map eSt)] ∧ ρ = [some (.pv (eCh cs)), some (.pv (eTs ts)), some (.pv (.bool g)), some (.pv (.bool f)), some (.loc S.length), some (.pv (.bool bad)), some (.pv (.int (pre.length : Nat))), some (.pv (eStg s)), some (.pv (.bool f)), some (.pv (eWs (wordsOf s2 t2))), y10, y11, y12, y13, y14]) ?_ ?_
                  · rw [ap_Set, sat_s]
                    simp only [ap_d2, ap_Ix, ap_Tup, ap_Cons, ap_C, ap_Nm, ap_Nil, List.getElem?_cons_zero, List.getElem?_cons_succ, Res.bind_ok, l2_pv, pa, x1, x2, ix_st1, ix_st0, ix_stg, ix_row w2.st, ix_row1, pvs_cons, pvs_nil, Option.map_some, List.length_cons, List.length_nil, show szOk (0 + 1) = true from rfl, ite_true, ad, sat_ok, sat_next, List.set_cons_succ, List.set_cons_zero]
                    first | trivial | exact ⟨rfl, rfl⟩
                  rintro ρ S3 ⟨rfl, rfl⟩
                  rw [ap_Set, sat_s]
                  simp only [ap_Ix, ap_C, ap_Nm, List.getElem?_cons_zero, List.getElem?_cons_succ, Res.bind_ok, i0, sat_ok, sat_next, List.set_cons_succ, List.set_cons_zero]
                  exact ⟨by first | trivial | rfl, _, rfl⟩
          rintro ρ S2 ⟨rfl, x9, rfl⟩
          refine sat_then (fun ρ S2 => S2 = S ++ [.lst (acc.map eSt)] ∧ ρ = [some (.pv (eCh cs)), some (.pv (eTs ts)), some (.pv (.bool g)), some (.pv (.bool f)), some (.loc S.length), some (.pv (.bool bad)), some (.pv (.int (pre.length : Nat))), some (.pv (eStg s)), some (.pv (.bool fs)), x9, some (.pv (.int (t.1 : Nat))), some (.pv (eWs t.2)), y12, y13, y14]) ?_ ?_
          · rw [ap_As, sat_s]
            simp only [ap_Ix, ap_Nm, List.getElem?_cons_zero, List.getElem?_cons_succ, Res.bind_ok, ix_ts c2, sat_ok, eSt, gT_ap, go_cons, go_nil, ap_gN, Option.bind_some, List.set_cons_succ, List.set_cons_zero, sat_next]
            first | trivial | exact ⟨rfl, rfl⟩
          rintro ρ S2 ⟨rfl, rfl⟩
          have hg2 : ∀ S : Sto, ((if g = true then (Res.ok (Val.pv (.int 2)) S) else Res.ok (Val.pv (.int 0)) S).bind fun x S1 => (if fs = true then (Res.ok (Val.pv (.int 1)) S1) else Res.ok (Val.pv (.int 0)) S1).bind fun y S2 => lift2 opAdd x y S2) = .ok (.pv (.int (gf g fs : Nat))) S := fun S => by cases g <;> cases fs <;> rfl
          refine sat_then (fun ρ S2 => S2 = S ++ [.lst (acc.map eSt)] ∧ ρ = [some (.pv (eCh cs)), some (.pv (eTs ts)), some (.pv (.bool g)), some (.pv (.bool f)), some (.loc S.length), some (.pv (.bool bad)), some (.pv (.int (pre.length : Nat))), some (.pv (eStg s)), some (.pv (.bool fs)), x9, some (.pv (.int (t.1 : Nat))), some (.pv (eWs t.2)), some (.pv (.int ((stepS s t g fs).1.1 : Nat))), some (.pv (.bool (stepS s t g fs).2)), y14]) ?_ ?_
          · rw [ap_As, sat_s]
            simp only [ap_Ix, ap_d2, ap_If, ap_Tst, ap_C, ap_Nm, List.getElem?_cons_zero, List.getElem?_cons_succ, Res.bind_ok, bl_pv, ix_stg, ix_row wt.st, ix_row2, hg2, ix_mv wr, sat_ok, eMv, gT_ap, go_cons, go_nil, ap_gN, Option.bind_some, List.set_cons_succ, List.set_cons_zero, sat_next]
            first | trivial | exact ⟨rfl, rfl⟩
          rintro ρ S2 ⟨rfl, rfl⟩
          refine sat_then (fun ρ S2 => S2 = S ++ [.lst (acc.map eSt)] ∧ ρ = [some (.pv (eCh cs)), some (.pv (eTs ts)), some (.pv (.bool g)), some (.pv (.bool f)), some (.loc S.length), some (.pv (.bool bad)), some (.pv (.int (pre.length : Nat))), some (.pv (eStg s)), some (.pv (.bool fs)), x9, some (.pv (.int (t.1 : Nat))), some (.pv (eWs t.2)), some (.pv (.int ((stepS s t g fs).1.1 : Nat))), some (.pv (.bool (stepS s t g fs).2)), some (.pv (eInf ⟨t.1, (stepS s t g fs).1.1, g, fs, (stepS s t g fs).2⟩))]) ?_ ?_
          · rw [ap_Set, sat_s]
            simp only [ap_Tup, ap_Cons, ap_Nm, ap_Nil, List.getElem?_cons_zero, List.getElem?_cons_succ, Res.bind_ok, pvs_cons, pvs_nil, Option.map_some, List.length_cons, List.length_nil, show szOk (0 + 1 + 1 + 1 + 1 + 1) = true from rfl, ite_true, sat_ok, sat_next, List.set_cons_succ, List.set_cons_zero]
            first | trivial | exact ⟨rfl, rfl⟩
          rintro ρ S2 ⟨rfl, rfl⟩
          have efa := fun S => e_fault (s := s) (i := ⟨t.1, (stepS s t g fs).1.1, g, fs, (stepS s t g fs).2⟩) (S := S) ⟨wt.st, (wfT_step wc.hd wt g fs).st⟩
          refine sat_then (fun ρ S2 => S2 = S ++ [.lst (acc.map eSt)] ∧ ρ = [some (.pv (eCh cs)), some (.pv (eTs ts)), some (.pv (.bool g)), some (.pv (.bool f)), some (.loc S.length), some (.pv (.bool (bad || (faultS s t.1 (stepS s t g fs).1.1 g fs (stepS s t g fs).2).isSome))), some (.pv (.int (pre.length : Nat))), some (.pv (eStg s)), some (.pv (.bool fs)), x9, some (.pv (.int (t.1 : Nat))), some (.pv (eWs t.2)), some (.pv (.int ((stepS s t g fs).1.1 : Nat))), some (.pv (.bool (stepS s t g fs).2)), some (.pv (eInf ⟨t.1, (stepS s t g fs).1.1, g, fs, (stepS s t g fs).2⟩))]) ?_ ?_
          · rw [ap_Set, sat_s]
            simp only [ap_Or, ap_d2, ap_Call, ap_Cons, ap_C, ap_Nm, ap_Nil, List.getElem?_cons_zero, List.getElem?_cons_succ, Res.bind_ok, bl_pv, efa]
            cases bad with
            | true =>
              simp only [ite_true, sat_ok, sat_next, List.set_cons_succ, List.set_cons_zero, Bool.true_or]
              first | trivial | exact ⟨rfl, rfl⟩
            | false =>
              cases hq : faultS s t.1 (stepS s t g fs).1.1 g fs (stepS s t g fs).2 with
              | none =>
                simp only [Bool.false_eq_true, ite_false, eOpt, l2_pv, opIsNot, sat_ok, sat_next, List.set_cons_succ, List.set_cons_zero, Bool.false_or, Option.isSome_none]
                first | trivial | exact ⟨rfl, rfl⟩
              | some x =>
                simp only [Bool.false_eq_true, ite_false, eOpt, l2_pv, opIsNot, sat_ok, sat_next, List.set_cons_succ, List.set_cons_zero, Bool.false_or, Option.isSome_some]
                first | trivial | exact ⟨rfl, rfl⟩
          rintro ρ S2 ⟨rfl, rfl⟩
          have ad : opAdd (eWs t.2) (.tuple [.bool (s.row t.1).says]) = some (eWs (wordsOf s t)) := by
            have := wt.ws
            unfold eWs
            rw [addT (by simp; omega)]
            simp [wordsOf]
          have sl : slOf (some 1) none (eWs (wordsOf s t)) = some (eWs (wordsOf s t).tail) := by
            unfold eWs
            have := cut_hi (xs := (wordsOf s t).map .bool) (r := 1) (by simp; omega)
            simpa using this
          refine sat_then (fun ρ S2 => S2 = S ++ [.lst ((acc ++ [(stepS s t g fs).1]).map eSt)] ∧ ρ = [some (.pv (eCh cs)), some (.pv (eTs ts)), some (.pv (.bool g)), some (.pv (.bool f)), some (.loc S.length), some (.pv (.bool (bad || (faultS s t.1 (stepS s t g fs).1.1 g fs (stepS s t g fs).2).isSome))), some (.pv (.int (pre.length : Nat))), some (.pv (eStg s)), some (.pv (.bool fs)), x9, some (.pv (.int (t.1 : Nat))), some (.pv (eWs t.2)), some (.pv (.int ((stepS s t g fs).1.1 : Nat))), some (.pv (.bool (stepS s t g fs).2)), some (.pv (eInf ⟨t.1, (stepS s t g fs).1.1, g, fs, (stepS s t g fs).2⟩))]) ?_ ?_
          · have gl : (S ++ [Ob.lst (acc.map eSt)])[S.length]? = some (.lst (acc.map eSt)) := by simp
            have ap := app_pv (p := eSt (stepS s t g fs).1) gl (by simp at hf ⊢; omega)
            have la := lst_at gl
            have st : (S ++ [Ob.lst (acc.map eSt)]).set S.length (.lst (acc.map eSt ++ [eSt (stepS s t g fs).1])) = S ++ [.lst ((acc ++ [(stepS s t g fs).1]).map eSt)] := by simp
            rw [st] at ap
            have ap' : fApp [.loc S.length, .pv (.tuple [.int ((stepS s t g fs).1.1 : Nat), eWs (wordsOf s t).tail])] (S ++ [Ob.lst (acc.map eSt)]) = .ok (.pv .none) (S ++ [.lst ((acc ++ [(stepS s t g fs).1]).map eSt)]) := ap
            simp only [ap_Do, sat_s, ap_App, ap_Tup, ap_Cons, ap_Sl, ap_d2, ap_Ix, ap_Pt, ap_No, ap_C, ap_Nm, ap_Nil, List.getElem?_cons_zero, List.getElem?_cons_succ, Res.bind_ok, la, ite_true, ix_stg, ix_row wt.st, ix_row1, pvs_cons, pvs_nil, Option.map_some, List.length_cons, List.length_nil, show szOk (0 + 1) = true from rfl, show szOk (0 + 1 + 1) = true from rfl, l2_pv, ad, intOf, sl_pv, sl, ap', sat_ok, sat_next]
            first | trivial | exact ⟨rfl, rfl⟩
          rintro ρ S2 ⟨rfl, rfl⟩
          exact ⟨rfl, _, _, _, _, _, _, _, _, _, rfl⟩
    rw [ap_For, sat_s, ap_Enum, sat_bind]
    simp only [ap_Nm, List.getElem?_cons_zero, List.getElem?_cons_succ, sat_ok, eCh, ps_t]
    rw [enum_zip]
    exact key cs ts [] [] [] false g none none none none none none none none none _ rfl rfl rfl h w (by simpa using h4) fun z6 z7 z8 z9 z10 z11 z12 z13 z14 => ⟨rfl, z6, z7, z8, z9, z10, z11, z12, z13, z14, by rw [Bool.false_or]; rfl⟩
  rintro ρ S1 ⟨rfl, y6, y7, y8, y9, y10, y11, y12, y13, y14, rfl⟩
  have g4 : (S ++ [Ob.lst ((afterC cs ts g f).map eSt)])[S.length]? = some (.lst ((afterC cs ts g f).map eSt)) := by simp
  have ft : b1 fTuple [.loc S.length] (S ++ [Ob.lst ((afterC cs ts g f).map eSt)]) = .ok (.pv (eTs (afterC cs ts g f))) (S ++ [Ob.lst ((afterC cs ts g f).map eSt)]) := by
    simp [b1, Val.getR, Val.get, fTuple, eTs]
  simp [ft]

end Law
set_option maxHeartbeats 4000000
namespace Law
open PySem PySem.Spec PyProof.Rows L2 L2H LamX Mi
theorem wc1 {s : Stg} (w : Wf s) : WfC [s] := fun x hx => by simp at hx; subst hx; exact w
theorem e_need_stage {v : PyData} {S : Sto} (hv : cl v) (hd : v.depth ≤ 60) (h : pStage v = true) : F_p_need_stage [.pv v] S = .ok (.pv .none) S := by
  unfold F_p_need_stage dFun
  simp [e_stage hv hd, h, dEnd]
theorem x_need_stage {v : PyData} {S : Sto} (hv : cl v) (hd : v.depth ≤ 60) (h : pStage v = false) : F_p_need_stage [.pv v] S = .err "InvalidStage" none S := by
  unfold F_p_need_stage dFun
  simp [e_stage hv hd, h, dEnd]
theorem e_need_stg {s : Stg} {S : Sto} (w : Wf s) : F_p_need_stage [.pv (eStg s)] S = .ok (.pv .none) S := e_need_stage (gd_stg w).cl (Nat.le_trans (gd_stg w).2 (by decide)) (wf_stage w)
def run1 (s : Stg) : St → List Bt → List PyData
  | _, [] => []
  | t, b :: r => .tuple [.bool (s.row t.1).says, .bool (stepS s t b.1 b.2).2, .int ((stepS s t b.1 b.2).1.1 : Nat)] :: run1 s (stepS s t b.1 b.2).1 r
def wrong1 (s : Stg) : Nat → St → List Bt → Option (Nat × Str)
  | _, _, [] => none
  | n, t, b :: r => match wrongS s t b.1 b.2 with
    | some w => some (n, w)
    | none => wrong1 s (n + 1) (stepS s t b.1 b.2).1 r
def eW2 : Option (Nat × Str) → PyData
  | none => .none
  | some (n, w) => .tuple [.int (n : Nat), .str w]
end Law
set_option maxHeartbeats 4000000
namespace Law
open PySem PySem.Spec PyProof.Rows L2 L2H LamX Mi
/-- c is a course that leads from t to u and never goes wrong -/
def Path (s : Stg) : St → List Bt → St → Prop
  | t, [], u => t = u
  | t, b :: r, u => b ∈ beatsS s t ∧ wrongS s t b.1 b.2 = none ∧ Path s (nxt s t b) r u
theorem path_snoc {s : Stg} {b : Bt} : ∀ {c : List Bt} {t u : St}, Path s t c u → b ∈ beatsS s u → wrongS s u b.1 b.2 = none → Path s t (c ++ [b]) (nxt s u b)
  | [], t, u, h, hb, hw => by
    have h : t = u := h
    subst h
    exact ⟨hb, hw, rfl⟩
  | a :: c, t, u, h, hb, hw => ⟨h.1, h.2.1, path_snoc h.2.2 hb hw⟩
theorem beat_ok {s : Stg} {t : St} {b : Bt} (h : b ∈ beatsS s t) : (!b.1 || reach s t) = true := by
  unfold beatsS at h
  split at h
  · rename_i hr; rw [hr]; simp
  · simp at h
    rcases h with rfl | rfl <;> rfl
theorem path_hc {s : Stg} {b : Bt} : ∀ {c : List Bt} {t u : St}, Path s t c u → b ∈ beatsS s u → hcP [s] [t] ((c ++ [b]).map eBt) = true
  | [], t, u, h, hb => by
    have h : t = u := h
    subst h
    have hr : reachC [s] [t] = reach s t := rfl
    simp only [List.nil_append, List.map_cons, List.map_nil, hcP, pBt_e, hr, beat_ok hb, Bool.and_self]
  | a :: c, t, u, h, hb => by
    have ih := path_hc h.2.2 hb
    have hr : reachC [s] [t] = reach s t := rfl
    have ha : afterC [s] [t] a.1 a.2 = [nxt s t a] := rfl
    simp only [List.cons_append, List.map_cons, hcP, pBt_e, hr, beat_ok h.1, ha, Bool.true_and]
    exact ih
theorem path_wrong {s : Stg} {b : Bt} {w : Str} : ∀ {c : List Bt} {t u : St} {n : Nat}, Path s t c u → wrongS s u b.1 b.2 = some w → wrong1 s n t (c ++ [b]) = some (n + c.length, w)
  | [], t, u, n, h, hw => by
    have h : t = u := h
    subst h
    simp only [List.nil_append, wrong1, hw, List.length_nil, Nat.add_zero]
  | a :: c, t, u, n, h, hw => by
    have ih := path_wrong (n := n + 1) h.2.2 hw
    simp only [List.cons_append, wrong1, h.2.1]
    rw [show (stepS s t a.1 a.2).1 = nxt s t a from rfl, ih, List.length_cons]
    congr 2
    omega
def Pths (s : Stg) (M : List SC) : Prop := ∀ x ∈ M, Path s (first s) x.2 x.1
/-- the course that is found: one goes along it well up to its last beat -/
def Fnd (s : Stg) (c : List Bt) : Prop := ∃ a b u w, c = a ++ [b] ∧ Path s (first s) a u ∧ b ∈ beatsS s u ∧ wrongS s u b.1 b.2 = some w
theorem inW_path {s : Stg} {t : St} {c : List Bt} (hp : Path s (first s) c t) : ∀ (bs : List Bt) (M : List SC), (∀ b ∈ bs, b ∈ beatsS s t) → Pths s M →
    (∀ c' M', inW s t c bs M = (some c', M') → Fnd s c' ∧ c'.length = c.length + 1) ∧ (∀ M', inW s t c bs M = (none, M') → Pths s M')
  | [], M, _, h => ⟨fun c' M' e => by simp [inW] at e, fun M' e => by simp [inW] at e; subst e; exact h⟩
  | b :: bs, M, hb, h => by
    simp only [inW]
    cases hw : wrongS s t b.1 b.2 with
    | some w =>
      simp only [Option.isSome_some, ite_true]
      refine ⟨fun c' M' e => ?_, fun M' e => by simp at e⟩
      simp at e
      obtain ⟨e1, e2⟩ := e
      subst e1
      exact ⟨⟨c, b, t, w, rfl, hp, hb b List.mem_cons_self, hw⟩, by simp⟩
    | none =>
      simp only [Option.isSome_none, Bool.false_eq_true, ite_false]
      refine inW_path hp bs _ (fun x hx => hb x (List.mem_cons_of_mem _ hx)) fun x hx => ?_
      unfold addM at hx
      split at hx
      · exact h x hx
      · rcases List.mem_append.mp hx with hx | hx
        · exact h x hx
        · simp at hx; subst hx; exact path_snoc hp (hb b List.mem_cons_self) hw
theorem inW_crs {s : Stg} {t : St} {c : List Bt} : ∀ (bs : List Bt) (M M' : List SC), c.length < M.length → Crs M → inW s t c bs M = (none, M') → Crs M'
  | [], M, M', _, h, e => by simp [inW] at e; subst e; exact h
  | b :: bs, M, M', hl, h, e => by
    simp only [inW] at e
    split at e
    · simp at e
    · obtain ⟨E0, j0⟩ := addM_ext (M := M) (x := (nxt s t b, c ++ [b]))
      refine inW_crs bs _ M' (by rw [j0, List.length_append]; omega) (crs_add h (by simp; omega)) e
theorem bfsW_path {s : Stg} : ∀ (n : Nat) (M : List SC) (i : Nat), Pths s M → Crs M → ∀ c' M', bfsW s n M i = (some c', M') → Fnd s c' ∧ c'.length ≤ i + n
  | 0, M, i, _, _, c', M', e => by simp [bfsW] at e
  | n + 1, M, i, h, hc, c', M', e => by
    simp only [bfsW] at e
    cases hg : M[i]? with
    | none => rw [hg] at e; simp at e
    | some x =>
      obtain ⟨t, c⟩ := x
      rw [hg] at e
      simp only at e
      have hp : Path s (first s) c t := h (t, c) (List.mem_of_getElem? hg)
      have hl : c.length ≤ i := hc i (t, c) hg
      have hi : i < M.length := (List.getElem?_eq_some_iff.mp hg).1
      obtain ⟨i1, i2⟩ := inW_path hp (beatsS s t) M (fun b hb => hb) h
      cases he : inW s t c (beatsS s t) M with
      | mk o M1 =>
        rw [he] at e
        cases o with
        | some c1 =>
          simp at e
          obtain ⟨rfl, rfl⟩ := e
          obtain ⟨j1, j2⟩ := i1 _ _ he
          exact ⟨j1, by omega⟩
        | none =>
          simp only at e
          obtain ⟨j1, j2⟩ := bfsW_path n M1 (i + 1) (i2 M1 he) (inW_crs (beatsS s t) M M1 (by omega) hc he) c' M' e
          exact ⟨j1, by omega⟩
theorem runW_fnd {s : Stg} {c : List Bt} (h : (runW s).1 = some c) : Fnd s c ∧ c.length ≤ 43 := by
  have := bfsW_path 43 [(first s, [])] 0 (fun x hx => by simp at hx; subst hx; rfl) (fun j x hj => by
    have : j = 0 := by
      have := (List.getElem?_eq_some_iff.mp hj).1
      simpa using this
    subst this
    simp at hj
    subst hj
    simp) c (runW s).2 (by show runW s = _; rw [← h])
  simpa using this
theorem e_is_good {s : Stg} {S : Sto} (w : Wf s) : F_p_is_good [.pv (eStg s)] S = .ok (.pv (.bool (nw s))) S := by
  unfold F_p_is_good dFun
  simp [e_need_stg w, e_never_wrong w]
theorem x_is_good {v : PyData} {S : Sto} (hv : cl v) (hd : v.depth ≤ 60) (h : pStage v = false) : F_p_is_good [.pv v] S = .err "InvalidStage" none S := by
  unfold F_p_is_good dFun
  simp [x_need_stage hv hd h, dEnd]

def kB (b : Bool) : NestedKey := .num (if b then 1 else 0)
def kSt (t : St) : NestedKey := .tup [.num (t.1 : Nat), .tup (t.2.map kB)]
def kTs (ts : List St) : NestedKey := .tup (ts.map kSt)
theorem keys_bools : ∀ l : List Bool, keyOf.keysOf (l.map .bool) = some (l.map kB)
  | [] => rfl
  | b :: l => by simp only [List.map_cons, keyOf.keysOf, keys_bools l, keyOf]; rfl
theorem key_st (t : St) : keyOf (eSt t) = some (kSt t) := by
  simp only [eSt, eWs, keyOf, keyOf.keysOf, keys_bools]
  rfl
theorem keys_sts : ∀ l : List St, keyOf.keysOf (l.map eSt) = some (l.map kSt)
  | [] => rfl
  | t :: l => by simp only [List.map_cons, keyOf.keysOf, keys_sts l, key_st]; rfl
theorem key_ts (ts : List St) : keyOf (eTs ts) = some (kTs ts) := by
  simp only [eTs, keyOf, keys_sts]
  rfl
theorem dep_bools : ∀ l : List Bool, NestedKey.depthAll (l.map kB) ≤ 1
  | [] => by simp [NestedKey.depthAll]
  | b :: l => by
    have := dep_bools l
    simp only [List.map_cons, NestedKey.depthAll, kB, NestedKey.depth]
    omega
theorem dep_st (t : St) : (kSt t).depth ≤ 4 := by
  have := dep_bools t.2
  simp only [kSt, NestedKey.depth, NestedKey.depthAll]
  omega
theorem dep_sts : ∀ l : List St, NestedKey.depthAll (l.map kSt) ≤ 4
  | [] => by simp [NestedKey.depthAll]
  | t :: l => by
    have := dep_sts l
    have := dep_st t
    simp only [List.map_cons, NestedKey.depthAll]
    omega
theorem dkey_ts (ts : List St) : dkey (eTs ts) = some (kTs ts) := by
  have h := key_ts ts
  have d := dep_sts ts
  unfold eTs at h ⊢
  simp only [dkey, h]
  rw [if_pos (by simp only [kTs, NestedKey.depth]; omega)]
theorem kB_inj {a b : Bool} (h : kB a = kB b) : a = b := by cases a <;> cases b <;> simp [kB] at h ⊢
theorem kBs_inj : ∀ {a b : List Bool}, a.map kB = b.map kB → a = b
  | [], [], _ => rfl
  | [], _ :: _, h => by simp at h
  | _ :: _, [], h => by simp at h
  | x :: a, y :: b, h => by
    simp only [List.map_cons, List.cons.injEq] at h
    rw [kB_inj h.1, kBs_inj h.2]
theorem kSt_inj {a b : St} (h : kSt a = kSt b) : a = b := by
  obtain ⟨n, l⟩ := a
  obtain ⟨m, k⟩ := b
  simp only [kSt, NestedKey.tup.injEq, List.cons.injEq, NestedKey.num.injEq, and_true] at h
  obtain ⟨h1, h2⟩ := h
  have e1 : n = m := by omega
  rw [e1, kBs_inj h2]
theorem kTs_inj {a b : List St} (h : kTs a = kTs b) : a = b := by
  unfold kTs at h
  simp only [NestedKey.tup.injEq] at h
  have key : ∀ {a b : List St}, a.map kSt = b.map kSt → a = b := by
    intro a
    induction a with
    | nil => intro b h; cases b with
             | nil => rfl
             | cons y b => simp at h
    | cons x a ih => intro b h; cases b with
                     | nil => simp at h
                     | cons y b =>
                       simp only [List.map_cons, List.cons.injEq] at h
                       rw [kSt_inj h.1, ih h.2]
  exact key h
def eKv (L : List (List St)) (v : List St → PyData) : List (PyData × PyData) := L.map fun ts => (eTs ts, v ts)
theorem any_key {L : List (List St)} {v : List St → PyData} {us : List St} : ((eKv L v).any fun kv => decide (keyOf kv.1 = some (kTs us))) = L.any fun ts => decide (ts = us) := by
  unfold eKv
  rw [List.any_map]
  congr 1
  funext ts
  simp only [Function.comp, key_ts]
  by_cases h : ts = us
  · simp [h]
  · have : ¬ (kTs ts = kTs us) := fun z => h (kTs_inj z)
    simp [h, this]
theorem find_any {α : Type} {p : α → Bool} : ∀ l : List α, (l.find? p).isSome = l.any p
  | [] => rfl
  | a :: l => by
    simp only [List.find?_cons, List.any_cons]
    cases p a
    · simpa using find_any l
    · rfl
theorem dfind_ts {L : List (List St)} {v : List St → PyData} {us : List St} : (dfind (eKv L v) (kTs us)).isSome = L.any fun ts => decide (ts = us) := by
  unfold dfind
  rw [Option.isSome_map, find_any]
  exact any_key
theorem put_ts {L : List (List St)} {v : List St → PyData} {us : List St} {x : PyData} (h : (L.any fun ts => decide (ts = us)) = false) : dctPut (eKv L v) (kTs us) (eTs us) x = eKv L v ++ [(eTs us, x)] := by
  unfold dctPut
  rw [if_neg (by rw [any_key, h]; decide)]
theorem notin_kv {L : List (List St)} {v : List St → PyData} {us : List St} : opNotIn (eTs us) (.dict (eKv L v)) = some (.bool (!(L.any fun ts => decide (ts = us)))) := by
  simp only [opNotIn, inOf, dkey_ts, Option.map_some, dfind_ts]

end Law
set_option maxHeartbeats 4000000
namespace Law
open PySem PySem.Spec PyProof.Rows L2 L2H LamX Mi
inductive RchC (cs : List Stg) : List St → Prop
  | first : RchC cs (firstC cs)
  | step {ts : List St} {b : Bt} : RchC cs ts → b ∈ beatsC cs ts → RchC cs (afterC cs ts b.1 b.2)
theorem RchC.wf {cs : List Stg} {ts : List St} (w : WfC cs) (h : RchC cs ts) : WfTs cs ts := by
  induction h with
  | first => exact wfTs_first w
  | step _ _ ih => exact wfTs_after w ih
def allT2 : List (List St) := (allT.map fun a => [a]) ++ allT.flatMap fun a => allT.map fun b => [a, b]
theorem sum_const {α : Type} (c : Nat) (f : α → List (List St)) : ∀ (l : List α), (∀ a ∈ l, (f a).length = c) → (l.flatMap f).length = l.length * c
  | [], _ => by simp
  | a :: l, h => by
    have ih := sum_const c f l fun x hx => h x (List.mem_cons_of_mem _ hx)
    have h1 := h a List.mem_cons_self
    simp only [List.flatMap_cons, List.length_append, List.length_cons, Nat.add_mul]
    omega
theorem allT2_len : allT2.length = 1806 := by
  unfold allT2
  rw [List.length_append, List.length_map, sum_const 42 _ allT (fun a _ => by rw [List.length_map, allT_len]), allT_len]
theorem mem_allT2 {cs : List Stg} {ts : List St} (w : WfC cs) (h : WfTs cs ts) (h0 : cs ≠ []) (h2 : cs.length ≤ 2) : ts ∈ allT2 := by
  match cs, ts, h, h0, h2 with
  | [s], [t], h, _, _ => exact List.mem_append_left _ (List.mem_map.mpr ⟨t, mem_allT w.hd h.1, rfl⟩)
  | [s, s'], [t, t'], h, _, _ => exact List.mem_append_right _ (List.mem_flatMap.mpr ⟨t, mem_allT w.hd h.1, List.mem_map.mpr ⟨t', mem_allT w.tl.hd h.2.1, rfl⟩⟩)
theorem len1806 {cs : List Stg} {L : List (List St)} (w : WfC cs) (h0 : cs ≠ []) (h2 : cs.length ≤ 2) (nd : L.Nodup) (h : ∀ t ∈ L, RchC cs t) : L.length ≤ 1806 := by
  rw [← allT2_len]
  exact nodup_sub nd fun t ht => mem_allT2 w ((h t ht).wf w) h0 h2

abbrev CC := List St × List Bt
def addC (M : List CC) (x : CC) : List CC := if (M.map (·.1)).any (fun y => decide (y = x.1)) then M else M ++ [x]
def inC (cs : List Stg) (ts : List St) (c : List Bt) : List Bt → List CC → List CC
  | [], M => M
  | b :: r, M => inC cs ts c r (addC M (afterC cs ts b.1 b.2, c ++ [b]))
def bfsC (cs : List Stg) : Nat → List CC → Nat → List CC
  | 0, M, _ => M
  | n + 1, M, i => match M[i]? with
    | none => M
    | some (ts, c) => bfsC cs n (inC cs ts c (beatsC cs ts) M) (i + 1)
def runC (cs : List Stg) : List CC := bfsC cs 1807 [(firstC cs, [])] 0
theorem any_sts {L : List (List St)} {t : List St} : (L.any fun y => decide (y = t)) = true ↔ t ∈ L := by
  rw [List.any_eq_true]
  exact ⟨fun ⟨y, h, e⟩ => by have e := of_decide_eq_true e; exact e ▸ h, fun h => ⟨t, h, by simp⟩⟩
structure InvN (cs : List Stg) (M : List CC) : Prop where
  rch : ∀ x ∈ M, RchC cs x.1
  nd : (M.map (·.1)).Nodup
theorem addC_ext {M : List CC} {x : CC} : ∃ E, addC M x = M ++ E := by
  unfold addC
  split
  · exact ⟨[], by simp⟩
  · exact ⟨_, rfl⟩
theorem addC_mem {M : List CC} {x : CC} : x.1 ∈ (addC M x).map (·.1) := by
  unfold addC
  split
  · rename_i h; exact any_sts.mp h
  · simp
theorem addC_inv {cs : List Stg} {M : List CC} {x : CC} (h : InvN cs M) (hx : RchC cs x.1) : InvN cs (addC M x) := by
  unfold addC
  split
  · exact h
  · rename_i hn
    have hn : ¬ x.1 ∈ M.map (·.1) := fun z => hn (any_sts.mpr z)
    refine ⟨fun y hy => ?_, ?_⟩
    · rcases List.mem_append.mp hy with hy | hy
      · exact h.rch y hy
      · simp at hy; subst hy; exact hx
    · rw [List.map_append, List.nodup_append]
      refine ⟨h.nd, by simp, fun a ha b hb e => ?_⟩
      simp at hb
      subst hb
      exact hn (e ▸ ha)
theorem inC_spec {cs : List Stg} {ts : List St} {c : List Bt} (ht : RchC cs ts) : ∀ (bs : List Bt) (M : List CC), (∀ b ∈ bs, b ∈ beatsC cs ts) → InvN cs M →
    InvN cs (inC cs ts c bs M) ∧ (∃ E, inC cs ts c bs M = M ++ E) ∧ ∀ b ∈ bs, afterC cs ts b.1 b.2 ∈ (inC cs ts c bs M).map (·.1)
  | [], M, _, h => ⟨h, ⟨[], by simp [inC]⟩, fun b hb => by simp at hb⟩
  | b :: bs, M, hb, h => by
    have hr : RchC cs (afterC cs ts b.1 b.2) := .step ht (hb b List.mem_cons_self)
    obtain ⟨j1, ⟨E, j2⟩, j3⟩ := inC_spec (c := c) ht bs (addC M (afterC cs ts b.1 b.2, c ++ [b])) (fun x hx => hb x (List.mem_cons_of_mem _ hx)) (addC_inv h hr)
    obtain ⟨E0, j0⟩ := addC_ext (M := M) (x := (afterC cs ts b.1 b.2, c ++ [b]))
    simp only [inC]
    refine ⟨j1, ⟨E0 ++ E, by rw [j2, j0, List.append_assoc]⟩, fun x hx => ?_⟩
    rcases List.mem_cons.mp hx with rfl | hx
    · rw [j2, List.map_append]
      exact List.mem_append_left _ (addC_mem (x := (afterC cs ts x.1 x.2, c ++ [x])))
    · exact j3 x hx
abbrev Bnd (cs : List Stg) : Prop := ∀ M : List CC, InvN cs M → M.length ≤ 1806
theorem bnd_of {cs : List Stg} {L : List (List St)} (h1 : firstC cs ∈ L) (h2 : ∀ ts ∈ L, ∀ b ∈ beatsC cs ts, afterC cs ts b.1 b.2 ∈ L) (hl : L.length ≤ 1806) : Bnd cs := fun M h => by
  have key : ∀ ts, RchC cs ts → ts ∈ L := fun ts ht => by
    induction ht with
    | first => exact h1
    | step _ hb ih => exact h2 _ ih _ hb
  have := nodup_sub h.nd (A := L) fun t ht => by
    obtain ⟨x, hx, rfl⟩ := List.mem_map.mp ht
    exact key _ (h.rch x hx)
  simp at this
  omega
structure InvB (cs : List Stg) (M : List CC) (i : Nat) : Prop extends InvN cs M where
  fst : firstC cs ∈ M.map (·.1)
  le : i ≤ M.length
  done : ∀ j x, j < i → M[j]? = some x → ∀ b ∈ beatsC cs x.1, afterC cs x.1 b.1 b.2 ∈ M.map (·.1)
theorem InvN.l1806 {cs : List Stg} {M : List CC} (w : WfC cs) (h0 : cs ≠ []) (h2 : cs.length ≤ 2) (h : InvN cs M) : M.length ≤ 1806 := by
  have := len1806 w h0 h2 h.nd fun t ht => by
    obtain ⟨x, hx, rfl⟩ := List.mem_map.mp ht
    exact h.rch x hx
  simpa using this
theorem bnd2 {cs : List Stg} (w : WfC cs) (h0 : cs ≠ []) (h2 : cs.length ≤ 2) : Bnd cs := fun M h => h.l1806 w h0 h2
theorem invB_first (cs : List Stg) : InvB cs [(firstC cs, [])] 0 := ⟨⟨fun x hx => by simp at hx; subst hx; exact .first, by simp⟩, by simp, by simp, fun j x hj _ => by omega⟩
theorem invB_next {cs : List Stg} {M : List CC} {i : Nat} {ts : List St} {c : List Bt} (h : InvB cs M i) (hg : M[i]? = some (ts, c)) : InvB cs (inC cs ts c (beatsC cs ts) M) (i + 1) := by
  have ht : RchC cs ts := h.rch (ts, c) (List.mem_of_getElem? hg)
  obtain ⟨j1, ⟨E, j2⟩, j3⟩ := inC_spec (c := c) ht (beatsC cs ts) M (fun b hb => hb) h.toInvN
  rw [j2] at j1 j3 ⊢
  have hi : i < M.length := (List.getElem?_eq_some_iff.mp hg).1
  refine ⟨j1, ?_, ?_, fun j x hj hx => ?_⟩
  · rw [List.map_append]; exact List.mem_append_left _ h.fst
  · rw [List.length_append]; omega
  · rw [List.getElem?_append_left (by omega)] at hx
    by_cases hji : j < i
    · exact fun b hb => by rw [List.map_append]; exact List.mem_append_left _ (h.done j x hji hx b hb)
    · obtain rfl : j = i := by omega
      rw [hg] at hx
      cases hx
      exact j3
theorem bfsC_spec {cs : List Stg} (hB : Bnd cs) : ∀ (n : Nat) (M : List CC) (i : Nat), InvB cs M i → 1806 < n + i → InvN cs (bfsC cs n M i) ∧ ∀ t, RchC cs t ↔ t ∈ (bfsC cs n M i).map (·.1)
  | 0, M, i, h, hn => by have := hB _ h.toInvN; have := h.le; omega
  | n + 1, M, i, h, hn => by
    simp only [bfsC]
    cases hg : M[i]? with
    | none =>
      have hi : M.length ≤ i := by simpa using hg
      have key : ∀ t ∈ M.map (·.1), ∀ b ∈ beatsC cs t, afterC cs t b.1 b.2 ∈ M.map (·.1) := fun t ht => by
        obtain ⟨x, hx, rfl⟩ := List.mem_map.mp ht
        obtain ⟨j, hj⟩ := List.mem_iff_getElem?.mp hx
        have : j < M.length := (List.getElem?_eq_some_iff.mp hj).1
        exact h.done j x (by omega) hj
      refine ⟨h.toInvN, fun t => ⟨fun ht => ?_, fun ht => ?_⟩⟩
      · induction ht with
        | first => exact h.fst
        | step _ hb ih => exact key _ ih _ hb
      · obtain ⟨x, hx, rfl⟩ := List.mem_map.mp ht
        exact h.rch x hx
    | some x =>
      obtain ⟨t, c⟩ := x
      simp only
      exact bfsC_spec hB n _ (i + 1) (invB_next h hg) (by omega)

def kvC (M : List CC) : List (PyData × PyData) := M.map fun x => (eTs x.1, eBs x.2)
theorem any_kvC {M : List CC} {us : List St} : ((kvC M).any fun kv => decide (keyOf kv.1 = some (kTs us))) = (M.map (·.1)).any fun y => decide (y = us) := by
  unfold kvC
  rw [List.any_map, List.any_map]
  congr 1
  funext x
  simp only [Function.comp, key_ts]
  by_cases h : x.1 = us
  · simp [h]
  · have : ¬ (kTs x.1 = kTs us) := fun z => h (kTs_inj z)
    simp [h, this]
theorem notin_kvC {M : List CC} {us : List St} : opNotIn (eTs us) (.dict (kvC M)) = some (.bool (!((M.map (·.1)).any fun y => decide (y = us)))) := by
  have e : (dfind (kvC M) (kTs us)).isSome = (M.map (·.1)).any fun y => decide (y = us) := by
    unfold dfind
    rw [Option.isSome_map, find_any]
    exact any_kvC
  simp only [opNotIn, inOf, dkey_ts, Option.map_some, e]
theorem put_kvC {M : List CC} {us : List St} {c : List Bt} (h : ((M.map (·.1)).any fun y => decide (y = us)) = false) : dctPut (kvC M) (kTs us) (eTs us) (eBs c) = kvC (M ++ [(us, c)]) := by
  unfold dctPut
  rw [if_neg (by rw [any_kvC, h]; decide)]
  simp [kvC]
theorem find_kvC : ∀ {M : List CC} {i : Nat} {ts : List St} {c : List Bt}, (M.map (·.1)).Nodup → M[i]? = some (ts, c) → dfind (kvC M) (kTs ts) = some (eBs c)
  | [], i, ts, c, _, h => by simp at h
  | x :: M, 0, ts, c, _, h => by
    simp at h
    subst h
    simp [dfind, kvC, key_ts]
  | x :: M, i + 1, ts, c, nd, h => by
    simp at h
    have nd' := List.nodup_cons.mp nd
    have ne : ¬ x.1 = ts := fun e => nd'.1 (List.mem_map.mpr ⟨(ts, c), List.mem_of_getElem? h, e.symm⟩)
    have nk : ¬ kTs x.1 = kTs ts := fun z => ne (kTs_inj z)
    have ih := find_kvC nd'.2 h
    simp only [dfind, kvC, List.map_cons, List.find?_cons, key_ts, Option.some.injEq, nk, decide_false] at ih ⊢
    exact ih

theorem addC_kv {M : List CC} {us : List St} {c : List Bt} (h : ((M.map (·.1)).any fun y => decide (y = us)) = true) : addC M (us, c) = M := by unfold addC; rw [if_pos h]
theorem addC_new {M : List CC} {us : List St} {c : List Bt} (h : ((M.map (·.1)).any fun y => decide (y = us)) = false) : addC M (us, c) = M ++ [(us, c)] := by unfold addC; rw [if_neg (by simp [h])]
def lnC (M : List CC) : List PyData := M.map fun x => eTs x.1
/-- the store while all_ways runs: the dict, the list of states -/
def StW (S : Sto) (M : List CC) : Sto := S ++ [.dct (kvC M), .lst (lnC M)]
theorem stW0 {S : Sto} {M : List CC} : (StW S M)[S.length]? = some (.dct (kvC M)) := by simp [StW]
theorem stW1 {S : Sto} {M : List CC} : (StW S M)[S.length + 1]? = some (.lst (lnC M)) := by
  unfold StW
  rw [List.getElem?_append_right (by omega)]
  have : S.length + 1 - S.length = 1 := by omega
  rw [this]; rfl
theorem stW_notin {S : Sto} {M : List CC} {us : List St} : lift2 opNotIn (.pv (eTs us)) (.loc S.length) (StW S M) = .ok (.pv (.bool (!((M.map (·.1)).any fun y => decide (y = us))))) (StW S M) := by
  simp only [lift2, Val.get, stW0, notin_kvC]
theorem stW_ix {S : Sto} {M : List CC} {i : Nat} {ts : List St} {c : List Bt} (h : M[i]? = some (ts, c)) : liftIx (.loc (S.length + 1)) (.pv (.int (i : Nat))) (StW S M) = .ok (.pv (eTs ts)) (StW S M) := by
  have e : ixOf (.list (lnC M)) (.int (i : Nat)) = some (eTs ts) := by rw [ix_lst]; simp [lnC, h]
  simp only [liftIx, Val.getR, Val.get, stW1, e]
theorem stW_at {S : Sto} {M : List CC} {i : Nat} {ts : List St} {c : List Bt} (nd : (M.map (·.1)).Nodup) (h : M[i]? = some (ts, c)) : liftIx (.loc S.length) (.pv (eTs ts)) (StW S M) = .ok (.pv (eBs c)) (StW S M) := by
  have e : ixOf (.dict (kvC M)) (eTs ts) = some (eBs c) := by
    show (dkey (eTs ts)).bind (fun n => dfind (kvC M) n) = _
    rw [dkey_ts]
    exact find_kvC nd h
  simp only [liftIx, Val.getR, Val.get, stW0, e]
theorem stW_set {S : Sto} {M : List CC} {us : List St} {c : List Bt} (h : ((M.map (·.1)).any fun y => decide (y = us)) = false) (hl : M.length ≤ 2000) : fSet (.loc S.length) (.pv (eTs us)) (.pv (eBs c)) (StW S M) = some (S ++ [.dct (kvC (M ++ [(us, c)])), .lst (lnC M)]) := by
  have z : szOk ((kvC M).length + 1) = true := decide_eq_true (by simp [kvC]; omega)
  simp only [fSet, stW0, dkey_ts, z, ite_true, put_kvC h]
  unfold StW
  rw [List.set_append_right _ _ (Nat.le_refl _), Nat.sub_self]; rfl

def CrC (M : List CC) : Prop := ∀ (j : Nat) (x : CC), M[j]? = some x → x.2.length ≤ j
theorem crC_add {M : List CC} {x : CC} (h : CrC M) (hx : x.2.length ≤ M.length) : CrC (addC M x) := by
  unfold addC
  split
  · exact h
  · intro j y hy
    rcases Nat.lt_or_ge j M.length with hj | hj
    · rw [List.getElem?_append_left hj] at hy; exact h j y hy
    · rw [List.getElem?_append_right hj] at hy
      have : j - M.length = 0 := by
        have := (List.getElem?_eq_some_iff.mp hy).1
        simpa using this
      rw [this] at hy
      simp at hy
      subst hy
      omega
theorem getC_ext {M E : List CC} {i : Nat} {x : CC} (h : M[i]? = some x) : (M ++ E)[i]? = some x := by
  rw [List.getElem?_append_left (List.getElem?_eq_some_iff.mp h).1]; exact h
theorem aw_inner {cs : List Stg} {ts : List St} {c : List Bt} {i : Nat} {S : Sto} {a3 : Option Val} {E : Str → Sto → Prop} (w : WfC cs) (h0 : cs ≠ []) (h2 : cs.length ≤ 10) (hB : Bnd cs) (ht : RchC cs ts) : ∀ (bs : List Bt) (M : List CC) (y5 y6 y7 : Option Val) (D : Ws), (∀ b ∈ bs, b ∈ beatsC cs ts) → InvN cs M → CrC M → M[i]? = some (ts, c) →
    (∀ y5 y6 y7, CrC (inC cs ts c bs M) → D.n [some (.pv (eCh cs)), some (.loc S.length), some (.loc (S.length + 1)), a3, some (.pv (eTs ts)), y5, y6, y7] (StW S (inC cs ts c bs M))) →
    (loopF (gT [(gN 5), (gN 6)]) (dSeq (dSet 7 (dIx (dCall F_p_chain_step (dCons (dNm 0) (dCons (dNm 4) (dCons (dNm 5) (dCons (dNm 6) dNil))))) (dC (.int 0))))
  (dIfS (dTst (d2 opNotIn (dNm 7) (dNm 1)))
  (dSeq (dSub (dNm 1) (dNm 7) (d2 opAdd (dIx (dNm 1) (dNm 4)) (dTup (dCons (dTup (dCons (dNm 5) (dCons (dNm 6) dNil))) dNil))))
  (dDo (dApp (dNm 2) (dNm 7))))
  dPass)) ((bs.map eBt).map .pv) [some (.pv (eCh cs)), some (.loc S.length), some (.loc (S.length + 1)), a3, some (.pv (eTs ts)), y5, y6, y7] (StW S M)).sat E D
  | [], M, y5, y6, y7, D, _, _, hc, _, h1 => by
    rw [List.map_nil, List.map_nil, loop_nil]
    exact h1 y5 y6 y7 hc
  | b :: bs, M, y5, y6, y7, D, hb, hi, hc, hg, h1 => by
    have wt := ht.wf w
    have l18 := hB _ hi
    have lc : c.length ≤ i := hc i (ts, c) hg
    have li : i < M.length := (List.getElem?_eq_some_iff.mp hg).1
    have z1 : szOk (0 + 1) = true := rfl
    have z2 : szOk (0 + 1 + 1) = true := rfl
    have ac : opAdd (eBs c) (.tuple [.tuple [.bool b.1, .bool b.2]]) = some (eBs (c ++ [b])) := by
      unfold eBs
      rw [addT (by simp; omega)]
      simp [eBt]
    have es := e_chain_step (g := b.1) (f := b.2) (S := StW S M) w wt h0 (by omega)
    have ia : ∀ a d e : PyData, liftIx (.pv (.tuple [a, d, e])) (.pv (.int 0)) (StW S M) = .ok (.pv a) (StW S M) := fun a d e => rfl
    refine loop_step (fun ρ S' => ∃ y5 y6 y7, S' = StW S (addC M (afterC cs ts b.1 b.2, c ++ [b])) ∧ ρ = [some (.pv (eCh cs)), some (.loc S.length), some (.loc (S.length + 1)), a3, some (.pv (eTs ts)), y5, y6, y7]) go_bt ?_ ?_
    · simp only [List.set_cons_succ, List.set_cons_zero]
      refine sat_then (fun ρ S' => S' = StW S M ∧ ρ = [some (.pv (eCh cs)), some (.loc S.length), some (.loc (S.length + 1)), a3, some (.pv (eTs ts)), some (.pv (.bool b.1)), some (.pv (.bool b.2)), some (.pv (eTs (afterC cs ts b.1 b.2)))]) ?_ ?_
      · rw [ap_Set, sat_s]
        simp only [ap_Ix, ap_Call, ap_Cons, ap_C, ap_Nm, ap_Nil, List.getElem?_cons_zero, List.getElem?_cons_succ, Res.bind_ok, es, ia, sat_ok, sat_next, List.set_cons_succ, List.set_cons_zero]
        first | trivial | exact ⟨rfl, rfl⟩
      rintro ρ S' ⟨rfl, rfl⟩
      have ni := stW_notin (S := S) (M := M) (us := afterC cs ts b.1 b.2)
      cases hk : (M.map (·.1)).any fun y => decide (y = afterC cs ts b.1 b.2) with
      | true =>
        rw [hk] at ni
        refine sat_no ?_ ⟨_, _, _, by rw [addC_kv hk], rfl⟩
        simp only [ap_Tst, ap_d2, ap_Nm, List.getElem?_cons_zero, List.getElem?_cons_succ, Res.bind_ok, ni, bl_pv, Bool.not_true]
      | false =>
        rw [hk] at ni
        have at_ := stW_at (S := S) hi.nd hg
        have fs := stW_set (S := S) (M := M) (us := afterC cs ts b.1 b.2) (c := c ++ [b]) hk (by omega)
        refine sat_yes ?_ ?_
        · simp only [ap_Tst, ap_d2, ap_Nm, List.getElem?_cons_zero, List.getElem?_cons_succ, Res.bind_ok, ni, bl_pv, Bool.not_false]
        · refine sat_then (fun ρ S' => S' = S ++ [.dct (kvC (M ++ [(afterC cs ts b.1 b.2, c ++ [b])])), .lst (lnC M)] ∧ ρ = [some (.pv (eCh cs)), some (.loc S.length), some (.loc (S.length + 1)), a3, some (.pv (eTs ts)), some (.pv (.bool b.1)), some (.pv (.bool b.2)), some (.pv (eTs (afterC cs ts b.1 b.2)))]) ?_ ?_
          · unfold dSub
            simp only [ap_d2, ap_Ix, ap_Tup, ap_Cons, ap_Nm, ap_Nil, List.getElem?_cons_zero, List.getElem?_cons_succ, Res.bind_ok, at_, pvs_cons, pvs_nil, Option.map_some, List.length_cons, List.length_nil, z1, z2, ite_true, l2_pv, ac, Res.s_ok, fs, sat_next]
            first | trivial | exact ⟨rfl, rfl⟩
          rintro ρ S' ⟨rfl, rfl⟩
          have gl : (S ++ [Ob.dct (kvC (M ++ [(afterC cs ts b.1 b.2, c ++ [b])])), .lst (lnC M)])[S.length + 1]? = some (.lst (lnC M)) := by
            rw [List.getElem?_append_right (by omega)]
            have : S.length + 1 - S.length = 1 := by omega
            rw [this]; rfl
          have ap := app_pv (p := eTs (afterC cs ts b.1 b.2)) gl (by simp [lnC]; omega)
          have la := lst_at gl
          have st : (S ++ [Ob.dct (kvC (M ++ [(afterC cs ts b.1 b.2, c ++ [b])])), .lst (lnC M)]).set (S.length + 1) (.lst (lnC M ++ [eTs (afterC cs ts b.1 b.2)])) = StW S (addC M (afterC cs ts b.1 b.2, c ++ [b])) := by
            rw [addC_new hk]
            unfold StW
            have : S.length + 1 - S.length = 1 := by omega
            rw [List.set_append_right _ _ (by omega), this]
            simp [lnC]
          rw [st] at ap
          simp only [ap_Do, sat_s, ap_App, ap_Nm, List.getElem?_cons_zero, List.getElem?_cons_succ, Res.bind_ok, la, ite_true, ap, sat_ok, sat_next]
          exact ⟨_, _, _, by first | trivial | rfl, rfl⟩
    · rintro ρ S' ⟨z5, z6, z7, rfl, rfl⟩
      obtain ⟨E0, j0⟩ := addC_ext (M := M) (x := (afterC cs ts b.1 b.2, c ++ [b]))
      have hr : RchC cs (afterC cs ts b.1 b.2) := .step ht (hb b List.mem_cons_self)
      refine aw_inner w h0 h2 hB ht bs _ z5 z6 z7 D (fun x hx => hb x (List.mem_cons_of_mem _ hx)) (addC_inv hi hr) (crC_add hc (by simp; omega)) (by rw [j0]; exact getC_ext hg) (fun y5 y6 y7 hc' => h1 y5 y6 y7 hc')

theorem beatsC_cons {s : Stg} {ss : List Stg} {t : St} {ts : List St} : beatsC (s :: ss) (t :: ts) = beatsS s t := rfl
theorem e_pbeats {cs : List Stg} {ts : List St} {S : Sto} (w : WfC cs) (h : WfTs cs ts) (h0 : cs ≠ []) : ((liftIx (.pv (eCh cs)) (.pv (.int 0)) S).bind fun x S1 => (liftIx (.pv (eTs ts)) (.pv (.int 0)) S1).bind fun y S2 => F_p_beats_of [x, y] S2) = .ok (.pv (.list ((beatsC cs ts).map eBt))) S := by
  cases cs with
  | nil => exact absurd rfl h0
  | cons s ss =>
    cases ts with
    | nil => exact h.elim
    | cons t ts => rw [ix_ch0, Res.bind_ok, ix_ts0, Res.bind_ok, e_beats w.hd h.1, beatsC_cons]
theorem e_all_ways {cs : List Stg} {S : Sto} (w : WfC cs) (h0 : cs ≠ []) (h2 : cs.length ≤ 10) (hB : Bnd cs) : F_p_all_ways [.pv (eCh cs)] S = .ok (.pv (.dict (kvC (runC cs)))) S := by
  have z0 : szOk 0 = true := rfl
  have z1 : szOk (0 + 1) = true := rfl
  have ef : ∀ S, F_p_first_of [.pv (eCh cs)] S = .ok (.pv (eTs (firstC cs))) S := fun S => e_first_of w (by omega)
  unfold F_p_all_ways
  refine sat_eqf rfl ?_
  simp only [List.map_cons, List.map_nil, List.replicate, List.cons_append, List.nil_append, Nat.reduceSub]
  refine sat_then (fun ρ S' => S' = StW S [(firstC cs, [])] ∧ ρ = [some (.pv (eCh cs)), some (.loc S.length), some (.loc (S.length + 1)), some (.pv (.int ((0 : Nat) : Int))), none, none, none, none]) ?_ ?_
  · rw [ap_Par3, sat_s]
    simp only [ap_Cons, dDct1, ap_Call, ap_Tup, ap_New, ap_C, ap_Nm, ap_Nil, List.getElem?_cons_zero, Res.bind_ok, ef, dkey_ts, pvs_cons, pvs_nil, Option.map_some, List.length_cons, List.length_nil, z0, z1, ite_true, sat_ok, sat_next, List.set_cons_succ, List.set_cons_zero]
    refine ⟨?_, ?_⟩
    · simp [StW, kvC, lnC, eBs]
    · simp
  rintro ρ S1 ⟨rfl, rfl⟩
  refine sat_then (fun ρ S2 => S2 = StW S (runC cs) ∧ ∃ y3 y4 y5 y6 y7, ρ = [some (.pv (eCh cs)), some (.loc S.length), some (.loc (S.length + 1)), y3, y4, y5, y6, y7]) ?_ ?_
  · refine sat_while (I := fun m ρ S2 => ∃ (M : List CC) (i : Nat) (y4 y5 y6 y7 : Option Val), ρ = [some (.pv (eCh cs)), some (.loc S.length), some (.loc (S.length + 1)), some (.pv (.int (i : Nat))), y4, y5, y6, y7] ∧ S2 = StW S M ∧ InvB cs M i ∧ CrC M ∧ bfsC cs (1807 - i) M i = runC cs ∧ m = 1806 - i)
      (fun m ρ S2 ⟨M, i, y4, y5, y6, y7, e1, e2, inv, crs, hb, e3⟩ => ?_) wh 1806 _ _ ⟨_, 0, none, none, none, none, rfl, rfl, invB_first cs, fun j x hj => by
        have : j = 0 := by
          have := (List.getElem?_eq_some_iff.mp hj).1
          simpa using this
        subst this
        simp at hj
        subst hj
        simp, rfl, rfl⟩ (by decide)
    subst e1 e2 e3
    have l18 := hB _ inv.toInvN
    have hle := inv.le
    have ln : b1 fLen [.loc (S.length + 1)] (StW S M) = .ok (.pv (.int (M.length : Nat))) (StW S M) := by simp [b1, Val.getR, Val.get, stW1, fLen, lnC]
    by_cases hi : i < M.length
    · right
      have hi' : (i : Int) < M.length := by omega
      refine ⟨?_, ?_⟩
      · simp [ln, l2_pv, opLt, hi']
      · obtain ⟨x, hg⟩ : ∃ x, M[i]? = some x := ⟨_, List.getElem?_eq_getElem hi⟩
        obtain ⟨ts, c⟩ := x
        have ht : RchC cs ts := inv.rch (ts, c) (List.mem_of_getElem? hg)
        have ix := stW_ix (S := S) hg
        obtain ⟨n, hn⟩ : ∃ n, 1807 - i = n + 1 := ⟨1806 - i, by omega⟩
        have hn' : 1807 - (i + 1) = n := by omega
        rw [hn] at hb
        simp only [bfsC, hg] at hb
        have inv' := invB_next inv hg
        refine sat_then (fun ρ S2 => S2 = StW S M ∧ ρ = [some (.pv (eCh cs)), some (.loc S.length), some (.loc (S.length + 1)), some (.pv (.int ((i + 1 : Nat) : Int))), some (.pv (eTs ts)), y5, y6, y7]) ?_ ?_
        · rw [ap_Par, sat_s]
          simp only [ap_Cons, ap_Ix, ap_d2, ap_C, ap_Nm, ap_Nil, List.getElem?_cons_zero, List.getElem?_cons_succ, Res.bind_ok, ix, l2_pv, opAdd, sat_ok, sat_next, List.set_cons_succ, List.set_cons_zero]
          exact ⟨by first | trivial | rfl, rfl⟩
        rintro ρ S2 ⟨rfl, rfl⟩
        refine sat_then (fun ρ S2 => S2 = StW S (inC cs ts c (beatsC cs ts) M) ∧ CrC (inC cs ts c (beatsC cs ts) M) ∧ ∃ y5 y6 y7, ρ = [some (.pv (eCh cs)), some (.loc S.length), some (.loc (S.length + 1)), some (.pv (.int ((i + 1 : Nat) : Int))), some (.pv (eTs ts)), y5, y6, y7]) ?_ ?_
        · have eb := e_pbeats (S := StW S M) w (ht.wf w) h0
          rw [ap_For, sat_s, ap_Items, sat_bind]
          have ea : (dCall F_p_beats_of (dCons (dIx (dNm 0) (dC (.int 0))) (dCons (dIx (dNm 4) (dC (.int 0))) dNil))) [some (.pv (eCh cs)), some (.loc S.length), some (.loc (S.length + 1)), some (.pv (.int ((i + 1 : Nat) : Int))), some (.pv (eTs ts)), y5, y6, y7] (StW S M) = .ok (.pv (.list ((beatsC cs ts).map eBt))) (StW S M) := by
            rw [← eb]
            cases cs with
            | nil => exact absurd rfl h0
            | cons s ss =>
              cases ts with
              | nil => exact (ht.wf w).elim
              | cons t ts => simp only [ap_Call, ap_Cons, ap_Ix, ap_C, ap_Nm, ap_Nil, List.getElem?_cons_zero, List.getElem?_cons_succ, Res.bind_ok, ix_ch0, ix_ts0]
          rw [ea, sat_ok]
          simp only [itemsOf, sat_ok]
          exact aw_inner w h0 h2 hB ht (beatsC cs ts) M _ _ _ _ (fun b h => h) inv.toInvN crs hg fun y5 y6 y7 hc => ⟨rfl, hc, _, _, _, rfl⟩
        rintro ρ S2 ⟨rfl, hc, z5, z6, z7, rfl⟩
        have l18' := hB _ inv'.toInvN
        have ld : b1 fLen [.loc S.length] (StW S (inC cs ts c (beatsC cs ts) M)) = .ok (.pv (.int ((inC cs ts c (beatsC cs ts) M).length : Nat))) (StW S (inC cs ts c (beatsC cs ts) M)) := by simp [b1, Val.getR, Val.get, stW0, fLen, kvC]
        have ng : ¬ ((3000 : Int) < ((inC cs ts c (beatsC cs ts) M).length : Nat)) := by omega
        refine sat_no ?_ ⟨1806 - (i + 1), by omega, _, i + 1, _, _, _, _, rfl, rfl, inv', hc, by rw [hn']; exact hb, rfl⟩
        simp only [ap_Tst, ap_d2, ap_Call, ap_Cons, ap_C, ap_Nm, ap_Nil, List.getElem?_cons_zero, List.getElem?_cons_succ, Res.bind_ok, ld, l2_pv, opGt, gt_iff_lt, decide_eq_false ng, bl_pv]
    · left
      have hi' : ¬ ((i : Int) < M.length) := by omega
      refine ⟨?_, ?_⟩
      · simp [ln, l2_pv, opLt, hi']
      · obtain ⟨n, hn⟩ : ∃ n, 1807 - i = n + 1 := ⟨1806 - i, by omega⟩
        have hg : M[i]? = none := by simp; omega
        rw [hn] at hb
        simp only [bfsC, hg] at hb
        rw [← hb]
        exact ⟨rfl, _, _, _, _, _, rfl⟩
  rintro ρ S2 ⟨rfl, y3, y4, y5, y6, y7, rfl⟩
  rw [ap_Ret, sat_s]
  simp only [ap_Fz, List.getElem?_cons_zero, List.getElem?_cons_succ, stW0, sat_ok, sat_ret, leave_pv]
  simp [StW]

end Law
set_option maxHeartbeats 4000000
namespace Law
open PySem PySem.Spec PyProof.Rows L2 L2H LamX Mi
def fwS (cs : List Stg) (x : CC) : Option (List Bt) := ((beatsC cs x.1).find? fun b => badC cs x.1 b.1 b.2).map fun b => x.2 ++ [b]
def fwL (cs : List Stg) : List CC → Option (List Bt)
  | [] => none
  | x :: r => match fwS cs x with
    | some c => some c
    | none => fwL cs r
theorem fwL_app {cs : List Stg} : ∀ {a b : List CC}, fwL cs (a ++ b) = (fwL cs a).or (fwL cs b)
  | [], b => rfl
  | x :: a, b => by
    simp only [List.cons_append, fwL]
    cases fwS cs x with
    | some c => rfl
    | none => exact fwL_app
theorem inC_cr {cs : List Stg} {ts : List St} {c : List Bt} : ∀ (bs : List Bt) (M : List CC), c.length < M.length → CrC M → CrC (inC cs ts c bs M)
  | [], M, _, h => h
  | b :: bs, M, hl, h => by
    obtain ⟨E0, j0⟩ := addC_ext (M := M) (x := (afterC cs ts b.1 b.2, c ++ [b]))
    exact inC_cr bs _ (by rw [j0, List.length_append]; omega) (crC_add h (by simp; omega))
theorem bfsC_cr {cs : List Stg} : ∀ (n : Nat) (M : List CC) (i : Nat), CrC M → CrC (bfsC cs n M i)
  | 0, M, i, h => h
  | n + 1, M, i, h => by
    simp only [bfsC]
    cases hg : M[i]? with
    | none => exact h
    | some x =>
      obtain ⟨ts, c⟩ := x
      have lc : c.length ≤ i := h i (ts, c) hg
      have li : i < M.length := (List.getElem?_eq_some_iff.mp hg).1
      exact bfsC_cr n _ (i + 1) (inC_cr _ _ (by omega) h)
theorem crC_first {cs : List Stg} : CrC [(firstC cs, [])] := fun j x hj => by
  have : j = 0 := by
    have := (List.getElem?_eq_some_iff.mp hj).1
    simpa using this
  subst this
  simp at hj
  subst hj
  simp
theorem runC_cr {cs : List Stg} : CrC (runC cs) := bfsC_cr _ _ _ crC_first
theorem runC_inv {cs : List Stg} (hB : Bnd cs) : InvN cs (runC cs) := (bfsC_spec hB 1807 _ 0 (invB_first cs) (by omega)).1
theorem runC_rch {cs : List Stg} (hB : Bnd cs) (ts : List St) : RchC cs ts ↔ ts ∈ (runC cs).map (·.1) := (bfsC_spec hB 1807 _ 0 (invB_first cs) (by omega)).2 ts
theorem fwL_len {cs : List Stg} {M : List CC} {c : List Bt} (h : CrC M) (e : fwL cs M = some c) : c.length ≤ M.length := by
  have key : ∀ (L P : List CC), M = P ++ L → fwL cs L = some c → c.length ≤ M.length := by
    intro L
    induction L with
    | nil => intro P _ e; cases e
    | cons x L ih =>
      intro P hM e
      simp only [fwL] at e
      cases hf : fwS cs x with
      | none => rw [hf] at e; exact ih (P ++ [x]) (by rw [hM]; simp) e
      | some c' =>
        rw [hf] at e
        simp only [Option.some.injEq] at e
        subst e
        unfold fwS at hf
        obtain ⟨b, _, rfl⟩ := Option.map_eq_some_iff.mp hf
        have := h P.length x (by rw [hM]; simp)
        rw [hM]
        simp
        omega
  exact key M [] rfl e
theorem badC_wr {cs : List Stg} {ts : List St} {g f : Bool} : opIsNot (eWr (wrongC cs ts g f)) .none = some (.bool (badC cs ts g f)) := by
  unfold badC
  cases wrongC cs ts g f <;> rfl
theorem wc_inner {cs : List Stg} {ts : List St} {c : List Bt} {M : List CC} {i : Nat} {S : Sto} {E : Str → Sto → Prop} (w : WfC cs) (h0 : cs ≠ []) (h4 : cs.length ≤ 10) (wt : WfTs cs ts) (nd : (M.map (·.1)).Nodup) (hg : M[i]? = some (ts, c)) (hl : c.length ≤ 100000) : ∀ (bs : List Bt) (y3 y4 : Option Val) (D : Ws),
    (bs.find? (fun b => badC cs ts b.1 b.2) = none → ∀ y3 y4, D.n [some (.pv (eCh cs)), some (.pv (.dict (kvC M))), some (.pv (eTs ts)), y3, y4] S) →
    (∀ b, bs.find? (fun b => badC cs ts b.1 b.2) = some b → D.r (.pv (eBs (c ++ [b]))) S) →
    (loopF (gT [(gN 3), (gN 4)]) (dIfS (dTst (d2 opIsNot (dIx (dCall F_p_chain_step (dCons (dNm 0) (dCons (dNm 2) (dCons (dNm 3) (dCons (dNm 4) dNil))))) (dC (.int 2))) (dC .none)))
  (dRet (d2 opAdd (dIx (dNm 1) (dNm 2)) (dTup (dCons (dTup (dCons (dNm 3) (dCons (dNm 4) dNil))) dNil))))
  dPass) ((bs.map eBt).map .pv) [some (.pv (eCh cs)), some (.pv (.dict (kvC M))), some (.pv (eTs ts)), y3, y4] S).sat E D
  | [], y3, y4, D, h1, _ => by
    rw [List.map_nil, List.map_nil, loop_nil]
    exact h1 rfl y3 y4
  | b :: bs, y3, y4, D, h1, h2 => by
    have z1 : szOk (0 + 1) = true := rfl
    have z2 : szOk (0 + 1 + 1) = true := rfl
    have es := e_chain_step (g := b.1) (f := b.2) (S := S) w wt h0 h4
    have i2 : ∀ a d e : PyData, liftIx (.pv (.tuple [a, d, e])) (.pv (.int 2)) S = .ok (.pv e) S := fun a d e => rfl
    have bw := badC_wr (cs := cs) (ts := ts) (g := b.1) (f := b.2)
    refine loop_step (fun ρ S' => S' = S ∧ badC cs ts b.1 b.2 = false ∧ ρ = [some (.pv (eCh cs)), some (.pv (.dict (kvC M))), some (.pv (eTs ts)), some (.pv (.bool b.1)), some (.pv (.bool b.2))]) go_bt ?_ ?_
    · simp only [List.set_cons_succ, List.set_cons_zero]
      have tt : (dTst (d2 opIsNot (dIx (dCall F_p_chain_step (dCons (dNm 0) (dCons (dNm 2) (dCons (dNm 3) (dCons (dNm 4) dNil))))) (dC (.int 2))) (dC .none))) [some (.pv (eCh cs)), some (.pv (.dict (kvC M))), some (.pv (eTs ts)), some (.pv (.bool b.1)), some (.pv (.bool b.2))] S = .ok (badC cs ts b.1 b.2) S := by
        simp only [ap_Tst, ap_d2, ap_Ix, ap_C, ap_Call, ap_Cons, ap_Nm, ap_Nil, List.getElem?_cons_zero, List.getElem?_cons_succ, Res.bind_ok, es, i2, l2_pv, bw, bl_pv]
      cases hb : badC cs ts b.1 b.2 with
      | true =>
        rw [hb] at tt
        have e := h2 b (by simp only [List.find?_cons, hb])
        refine sat_yes tt ?_
        have ac : opAdd (eBs c) (.tuple [.tuple [.bool b.1, .bool b.2]]) = some (eBs (c ++ [b])) := by
          unfold eBs
          rw [addT (by simp; omega)]
          simp [eBt]
        have at_ : liftIx (.pv (.dict (kvC M))) (.pv (eTs ts)) S = .ok (.pv (eBs c)) S := by
          have e : ixOf (.dict (kvC M)) (eTs ts) = some (eBs c) := by
            show (dkey (eTs ts)).bind (fun n => dfind (kvC M) n) = _
            rw [dkey_ts]
            exact find_kvC nd hg
          rw [ix_pv, e]
        rw [ap_Ret, sat_s]
        simp only [ap_d2, ap_Ix, ap_Tup, ap_Cons, ap_Nm, ap_Nil, List.getElem?_cons_zero, List.getElem?_cons_succ, Res.bind_ok, at_, pvs_cons, pvs_nil, Option.map_some, List.length_cons, List.length_nil, z1, z2, ite_true, l2_pv, ac, sat_ok]
        exact e
      | false =>
        rw [hb] at tt
        exact sat_no tt ⟨rfl, rfl, rfl⟩
    · rintro ρ S' ⟨rfl, hb, rfl⟩
      exact wc_inner w h0 h4 wt nd hg hl bs _ _ D (fun e => h1 (by simp only [List.find?_cons, hb]; exact e)) (fun x e => h2 x (by simp only [List.find?_cons, hb]; exact e))
theorem e_nchain {cs : List Stg} {S : Sto} (w : WfC cs) (h0 : cs ≠ []) (h4 : cs.length ≤ 4) : F_p_need_chain [.pv (eCh cs)] S = .ok (.pv .none) S :=
  e_need_chain (gd_ch w h4).cl (Nat.le_trans (gd_ch w h4).2 (by decide)) (wf_chain w h0 h4)
theorem e_count {cs : List Stg} {S : Sto} (w : WfC cs) (h0 : cs ≠ []) (h4 : cs.length ≤ 4) (hB : Bnd cs) : F_p_count_states [.pv (eCh cs)] S = .ok (.pv (.int ((runC cs).length : Nat))) S := by
  have ea := e_all_ways (S := S) w h0 (by omega) hB
  unfold F_p_count_states dFun
  simp [e_nchain w h0 h4, ea, b1_pv, fLen, kvC]
theorem e_pbeats2 {cs : List Stg} {ts : List St} {A B : DE} {ρ : En} {S : Sto} (w : WfC cs) (h : WfTs cs ts) (h0 : cs ≠ []) (ha : A ρ S = .ok (.pv (eCh cs)) S) (hb : B ρ S = .ok (.pv (eTs ts)) S) :
    (dCall F_p_beats_of (dCons (dIx A (dC (.int 0))) (dCons (dIx B (dC (.int 0))) dNil))) ρ S = .ok (.pv (.list ((beatsC cs ts).map eBt))) S := by
  rw [← e_pbeats (S := S) w h h0]
  cases cs with
  | nil => exact absurd rfl h0
  | cons s ss =>
    cases ts with
    | nil => exact h.elim
    | cons t ts => simp only [ap_Call, ap_Cons, ap_Ix, ap_C, ap_Nil, ha, hb, Res.bind_ok, ix_ch0, ix_ts0]
theorem e_wrong_chain {cs : List Stg} {S : Sto} (w : WfC cs) (h0 : cs ≠ []) (h4 : cs.length ≤ 4) (hB : Bnd cs) : F_p_wrong_chain [.pv (eCh cs)] S = .ok (.pv (eO (fwL cs (runC cs)))) S := by
  have ea := e_all_ways (S := S) w h0 (by omega) hB
  have inv := runC_inv hB
  have l18 := hB _ inv
  unfold F_p_wrong_chain
  refine sat_eqf rfl ?_
  simp only [List.map_cons, List.map_nil, List.replicate, List.cons_append, List.nil_append, Nat.reduceSub]
  refine sat_then (fun ρ S' => S' = S ∧ ρ = [some (.pv (eCh cs)), none, none, none, none]) ?_ ?_
  · simp only [ap_Do, sat_s, ap_Call, ap_Cons, ap_Nm, ap_Nil, List.getElem?_cons_zero, List.getElem?_cons_succ, Res.bind_ok, e_nchain w h0 h4, sat_ok, sat_next]
    first | trivial | exact ⟨rfl, rfl⟩
  rintro ρ S' ⟨rfl, rfl⟩
  refine sat_then (fun ρ S1 => S1 = S' ∧ ρ = [some (.pv (eCh cs)), some (.pv (.dict (kvC (runC cs)))), none, none, none]) ?_ ?_
  · rw [ap_Set, sat_s]
    simp only [ap_Call, ap_Cons, ap_Nm, ap_Nil, List.getElem?_cons_zero, List.getElem?_cons_succ, Res.bind_ok, ea, sat_ok, sat_next, List.set_cons_succ, List.set_cons_zero]
    first | trivial | exact ⟨rfl, rfl⟩
  rintro ρ S1 ⟨rfl, rfl⟩
  refine sat_then (fun ρ S2 => S2 = S1 ∧ fwL cs (runC cs) = none) ?_ ?_
  · have key : ∀ (L P : List CC) (y2 y3 y4 : Option Val) (D : Ws), runC cs = P ++ L → (fwL cs L = none → ∀ ρ, D.n ρ S1) → (∀ c, fwL cs L = some c → D.r (.pv (eBs c)) S1) →
        (loopF (gN 2) (dFor (dItems (dCall F_p_beats_of (dCons (dIx (dNm 0) (dC (.int 0))) (dCons (dIx (dNm 2) (dC (.int 0))) dNil)))) (gT [(gN 3), (gN 4)])
  (dIfS (dTst (d2 opIsNot (dIx (dCall F_p_chain_step (dCons (dNm 0) (dCons (dNm 2) (dCons (dNm 3) (dCons (dNm 4) dNil))))) (dC (.int 2))) (dC .none)))
  (dRet (d2 opAdd (dIx (dNm 1) (dNm 2)) (dTup (dCons (dTup (dCons (dNm 3) (dCons (dNm 4) dNil))) dNil))))
  dPass)) (L.map fun x => Val.pv (eTs x.1)) [some (.pv (eCh cs)), some (.pv (.dict (kvC (runC cs)))), y2, y3, y4] S1).sat (fun _ _ => False) D := by
      intro L
      induction L with
      | nil => intro P y2 y3 y4 D hM h1 _; rw [List.map_nil, loop_nil]; exact h1 rfl _
      | cons x L ih =>
        intro P y2 y3 y4 D hM h1 h2
        obtain ⟨ts, c⟩ := x
        have hg : (runC cs)[P.length]? = some (ts, c) := by rw [hM]; simp
        have lc : c.length ≤ P.length := runC_cr _ _ hg
        have lP : P.length < (runC cs).length := (List.getElem?_eq_some_iff.mp hg).1
        have wt : WfTs cs ts := (inv.rch (ts, c) (List.mem_of_getElem? hg)).wf w
        rw [List.map_cons]
        refine loop_step (fun ρ S' => S' = S1 ∧ fwS cs (ts, c) = none ∧ ∃ y2 y3 y4, ρ = [some (.pv (eCh cs)), some (.pv (.dict (kvC (runC cs)))), y2, y3, y4]) rfl ?_ ?_
        · simp only [List.set_cons_succ, List.set_cons_zero]
          have eb := e_pbeats2 (A := dNm 0) (B := dNm 2) (ρ := [some (.pv (eCh cs)), some (.pv (.dict (kvC (runC cs)))), some (.pv (eTs ts)), y3, y4]) (S := S1) w wt h0 rfl rfl
          rw [ap_For, sat_s, ap_Items, sat_bind, eb, sat_ok]
          simp only [itemsOf, sat_ok]
          refine wc_inner w h0 (by omega) wt inv.nd hg (by omega) (beatsC cs ts) _ _ _ (fun e y3 y4 => ⟨rfl, by simp [fwS, e], _, _, _, rfl⟩) (fun b e => ?_)
          exact h2 (c ++ [b]) (by simp [fwL, fwS, e])
        · rintro ρ S' ⟨rfl, hf, z2, z3, z4, rfl⟩
          exact ih (P ++ [(ts, c)]) _ _ _ D (by rw [hM]; simp) (fun e => h1 (by simp only [fwL, hf]; exact e)) (fun c' e => h2 c' (by simp only [fwL, hf]; exact e))
    rw [ap_For, sat_s, ap_Items, sat_bind]
    simp only [ap_Nm, List.getElem?_cons_zero, List.getElem?_cons_succ, sat_ok, itemsOf]
    have em : (kvC (runC cs)).map (fun kv => Val.pv kv.1) = (runC cs).map fun x => Val.pv (eTs x.1) := by simp [kvC]
    rw [em]
    refine key (runC cs) [] _ _ _ _ rfl (fun e ρ => ⟨rfl, e⟩) (fun c e => ?_)
    simp only [leave_pv, e, eO, List.take_length]
  rintro ρ S2 ⟨rfl, e⟩
  rw [ap_Ret, sat_s]
  simp only [ap_C, sat_ok, sat_ret, leave_pv, e, eO, List.take_length]
theorem x_count {v : PyData} {S : Sto} (hv : cl v) (hd : v.depth ≤ 60) (h : pChain v = false) : F_p_count_states [.pv v] S = .err "InvalidChain" none S := by
  unfold F_p_count_states dFun
  simp [x_need_chain hv hd h, dEnd]
theorem x_wrong_chain {v : PyData} {S : Sto} (hv : cl v) (hd : v.depth ≤ 60) (h : pChain v = false) : F_p_wrong_chain [.pv v] S = .err "InvalidChain" none S := by
  unfold F_p_wrong_chain dFun
  simp [x_need_chain hv hd h, dEnd]
def wrB (cs : List Stg) (ts : List St) (c : List Bt) : List Bt → Option (List Bt) → Option (List Bt)
  | [], w => w
  | b :: r, w => wrB cs ts c r (if badC cs ts b.1 b.2 && w.isNone then some (c ++ [b]) else w)
theorem wrB_eq {cs : List Stg} {ts : List St} {c : List Bt} : ∀ (bs : List Bt) (w : Option (List Bt)), wrB cs ts c bs w = w.or ((bs.find? fun b => badC cs ts b.1 b.2).map fun b => c ++ [b])
  | [], w => by cases w <;> rfl
  | b :: bs, w => by
    simp only [wrB, wrB_eq bs, List.find?_cons]
    cases w with
    | some x => simp
    | none =>
      cases badC cs ts b.1 b.2 <;> simp
def lenOk (o : Option (List Bt)) : Prop := ∀ c, o = some c → c.length ≤ 10000
theorem la_inner {cs : List Stg} {ts : List St} {c : List Bt} {i : Nat} {S : Sto} {a1 : Option Val} {E : Str → Sto → Prop} (w : WfC cs) (h0 : cs ≠ []) (h2 : cs.length ≤ 10) (hB : Bnd cs) (ht : RchC cs ts) : ∀ (bs : List Bt) (M : List CC) (o : Option (List Bt)) (y6 y7 y8 y9 y10 y11 : Option Val) (D : Ws), (∀ b ∈ bs, b ∈ beatsC cs ts) → InvN cs M → CrC M → M[i]? = some (ts, c) →
    (∀ y6 y7 y8 y9 y10 y11, D.n [some (.pv (eCh cs)), a1, some (.pv (eO (wrB cs ts c bs o))), some (.loc S.length), some (.loc (S.length + 1)), some (.pv (.int (i : Nat))), y6, y7, y8, y9, y10, y11] (StW S (inC cs ts c bs M))) →
    (loopF (gT [(gN 6), (gN 7)]) (dSeq (dAs (gT [(gN 8), (gN 9), (gN 10)]) (dCall F_law_on (dCons (dNm 0) (dCons (dIx (dNm 4) (dNm 5)) (dCons (dNm 6) (dCons (dNm 7) dNil))))))
  (dSeq (dSet 11 (d2 opAdd (dIx (dNm 3) (dIx (dNm 4) (dNm 5))) (dTup (dCons (dTup (dCons (dNm 6) (dCons (dNm 7) dNil))) dNil))))
  (dSeq (dIfS (dAndT (dTst (dNm 10)) (dTst (d2 opIs (dNm 2) (dC .none))))
  (dSet 2 (dNm 11))
  dPass)
  (dIfS (dTst (d2 opNotIn (dNm 8) (dNm 3)))
  (dSeq (dSub (dNm 3) (dNm 8) (dNm 11))
  (dDo (dApp (dNm 4) (dNm 8))))
  dPass)))) ((bs.map eBt).map .pv) [some (.pv (eCh cs)), a1, some (.pv (eO o)), some (.loc S.length), some (.loc (S.length + 1)), some (.pv (.int (i : Nat))), y6, y7, y8, y9, y10, y11] (StW S M)).sat E D
  | [], M, o, y6, y7, y8, y9, y10, y11, D, _, _, hc, _, h1 => by
    rw [List.map_nil, List.map_nil, loop_nil]
    exact h1 y6 y7 y8 y9 y10 y11
  | b :: bs, M, o, y6, y7, y8, y9, y10, y11, D, hb, hi, hc, hg, h1 => by
    have wt := ht.wf w
    have l18 := hB _ hi
    have lc : c.length ≤ i := hc i (ts, c) hg
    have li : i < M.length := (List.getElem?_eq_some_iff.mp hg).1
    have z1 : szOk (0 + 1) = true := rfl
    have z2 : szOk (0 + 1 + 1) = true := rfl
    have ac : opAdd (eBs c) (.tuple [.tuple [.bool b.1, .bool b.2]]) = some (eBs (c ++ [b])) := by
      unfold eBs
      rw [addT (by simp; omega)]
      simp [eBt]
    have es := e_law_on (g := b.1) (f := b.2) (S := StW S M) w wt h0 (by omega)
    have ix := stW_ix (S := S) hg
    have at_ := stW_at (S := S) hi.nd hg
    refine loop_step (fun ρ S' => ∃ y6 y7 y8 y9 y10 y11, S' = StW S (addC M (afterC cs ts b.1 b.2, c ++ [b])) ∧ ρ = [some (.pv (eCh cs)), a1, some (.pv (eO (if badC cs ts b.1 b.2 && o.isNone then some (c ++ [b]) else o))), some (.loc S.length), some (.loc (S.length + 1)), some (.pv (.int (i : Nat))), y6, y7, y8, y9, y10, y11]) go_bt ?_ ?_
    · simp only [List.set_cons_succ, List.set_cons_zero]
      refine sat_then (fun ρ S' => S' = StW S M ∧ ρ = [some (.pv (eCh cs)), a1, some (.pv (eO o)), some (.loc S.length), some (.loc (S.length + 1)), some (.pv (.int (i : Nat))), some (.pv (.bool b.1)), some (.pv (.bool b.2)), some (.pv (eTs (afterC cs ts b.1 b.2))), some (.pv (.bool (giveC cs ts b.1 b.2))), some (.pv (.bool (badC cs ts b.1 b.2))), y11]) ?_ ?_
      · rw [ap_As, sat_s]
        simp only [ap_Ix, ap_Call, ap_Cons, ap_Nm, ap_Nil, List.getElem?_cons_zero, List.getElem?_cons_succ, Res.bind_ok, ix, es, sat_ok, gT_ap, go_cons, go_nil, ap_gN, Option.bind_some, List.set_cons_succ, List.set_cons_zero, sat_next]
        first | trivial | exact ⟨rfl, rfl⟩
      rintro ρ S' ⟨rfl, rfl⟩
      refine sat_then (fun ρ S' => S' = StW S M ∧ ρ = [some (.pv (eCh cs)), a1, some (.pv (eO o)), some (.loc S.length), some (.loc (S.length + 1)), some (.pv (.int (i : Nat))), some (.pv (.bool b.1)), some (.pv (.bool b.2)), some (.pv (eTs (afterC cs ts b.1 b.2))), some (.pv (.bool (giveC cs ts b.1 b.2))), some (.pv (.bool (badC cs ts b.1 b.2))), some (.pv (eBs (c ++ [b])))]) ?_ ?_
      · rw [ap_Set, sat_s]
        simp only [ap_d2, ap_Tup, ap_Ix, ap_Cons, ap_Nm, ap_Nil, List.getElem?_cons_zero, List.getElem?_cons_succ, Res.bind_ok, ix, at_, pvs_cons, pvs_nil, Option.map_some, List.length_cons, List.length_nil, z1, z2, ite_true, l2_pv, ac, sat_ok, sat_next, List.set_cons_succ, List.set_cons_zero]
        first | trivial | exact ⟨rfl, rfl⟩
      rintro ρ S' ⟨rfl, rfl⟩
      refine sat_then (fun ρ S' => S' = StW S M ∧ ρ = [some (.pv (eCh cs)), a1, some (.pv (eO (if badC cs ts b.1 b.2 && o.isNone then some (c ++ [b]) else o))), some (.loc S.length), some (.loc (S.length + 1)), some (.pv (.int (i : Nat))), some (.pv (.bool b.1)), some (.pv (.bool b.2)), some (.pv (eTs (afterC cs ts b.1 b.2))), some (.pv (.bool (giveC cs ts b.1 b.2))), some (.pv (.bool (badC cs ts b.1 b.2))), some (.pv (eBs (c ++ [b])))]) ?_ ?_
      · have is : opIs (eO o) .none = some (.bool o.isNone) := by cases o <;> rfl
        have tt : (dAndT (dTst (dNm 10)) (dTst (d2 opIs (dNm 2) (dC .none)))) [some (.pv (eCh cs)), a1, some (.pv (eO o)), some (.loc S.length), some (.loc (S.length + 1)), some (.pv (.int (i : Nat))), some (.pv (.bool b.1)), some (.pv (.bool b.2)), some (.pv (eTs (afterC cs ts b.1 b.2))), some (.pv (.bool (giveC cs ts b.1 b.2))), some (.pv (.bool (badC cs ts b.1 b.2))), some (.pv (eBs (c ++ [b])))] (StW S M) = .ok (badC cs ts b.1 b.2 && o.isNone) (StW S M) := by
          simp only [ap_AndT, ap_Tst, ap_d2, ap_C, ap_Nm, List.getElem?_cons_zero, List.getElem?_cons_succ, Res.bind_ok, bl_pv, l2_pv, is]
          cases badC cs ts b.1 b.2 <;> simp
        cases hq : badC cs ts b.1 b.2 && o.isNone with
        | true =>
          rw [hq] at tt
          refine sat_yes tt ?_
          rw [ap_Set, sat_s]
          simp only [ap_Nm, List.getElem?_cons_zero, List.getElem?_cons_succ, sat_ok, sat_next, List.set_cons_succ, List.set_cons_zero, ite_true, eO]
          first | trivial | exact ⟨rfl, rfl⟩
        | false =>
          rw [hq] at tt
          exact sat_no tt ⟨rfl, rfl⟩
      rintro ρ S' ⟨rfl, rfl⟩
      have ni := stW_notin (S := S) (M := M) (us := afterC cs ts b.1 b.2)
      cases hk : (M.map (·.1)).any fun y => decide (y = afterC cs ts b.1 b.2) with
      | true =>
        rw [hk] at ni
        refine sat_no ?_ ⟨_, _, _, _, _, _, by rw [addC_kv hk], rfl⟩
        simp only [ap_Tst, ap_d2, ap_Nm, List.getElem?_cons_zero, List.getElem?_cons_succ, Res.bind_ok, ni, bl_pv, Bool.not_true]
      | false =>
        rw [hk] at ni
        have fs := stW_set (S := S) (M := M) (us := afterC cs ts b.1 b.2) (c := c ++ [b]) hk (by omega)
        refine sat_yes ?_ ?_
        · simp only [ap_Tst, ap_d2, ap_Nm, List.getElem?_cons_zero, List.getElem?_cons_succ, Res.bind_ok, ni, bl_pv, Bool.not_false]
        · refine sat_then (fun ρ S' => S' = S ++ [.dct (kvC (M ++ [(afterC cs ts b.1 b.2, c ++ [b])])), .lst (lnC M)] ∧ ρ = [some (.pv (eCh cs)), a1, some (.pv (eO (if badC cs ts b.1 b.2 && o.isNone then some (c ++ [b]) else o))), some (.loc S.length), some (.loc (S.length + 1)), some (.pv (.int (i : Nat))), some (.pv (.bool b.1)), some (.pv (.bool b.2)), some (.pv (eTs (afterC cs ts b.1 b.2))), some (.pv (.bool (giveC cs ts b.1 b.2))), some (.pv (.bool (badC cs ts b.1 b.2))), some (.pv (eBs (c ++ [b])))]) ?_ ?_
          · unfold dSub
            simp only [ap_Nm, List.getElem?_cons_zero, List.getElem?_cons_succ, Res.s_ok, fs, sat_next]
            first | trivial | exact ⟨rfl, rfl⟩
          rintro ρ S' ⟨rfl, rfl⟩
          have gl : (S ++ [Ob.dct (kvC (M ++ [(afterC cs ts b.1 b.2, c ++ [b])])), .lst (lnC M)])[S.length + 1]? = some (.lst (lnC M)) := by
            rw [List.getElem?_append_right (by omega)]
            have : S.length + 1 - S.length = 1 := by omega
            rw [this]; rfl
          have ap := app_pv (p := eTs (afterC cs ts b.1 b.2)) gl (by simp [lnC]; omega)
          have la := lst_at gl
          have st : (S ++ [Ob.dct (kvC (M ++ [(afterC cs ts b.1 b.2, c ++ [b])])), .lst (lnC M)]).set (S.length + 1) (.lst (lnC M ++ [eTs (afterC cs ts b.1 b.2)])) = StW S (addC M (afterC cs ts b.1 b.2, c ++ [b])) := by
            rw [addC_new hk]
            unfold StW
            have : S.length + 1 - S.length = 1 := by omega
            rw [List.set_append_right _ _ (by omega), this]
            simp [lnC]
          rw [st] at ap
          simp only [ap_Do, sat_s, ap_App, ap_Nm, List.getElem?_cons_zero, List.getElem?_cons_succ, Res.bind_ok, la, ite_true, ap, sat_ok, sat_next]
          exact ⟨_, _, _, _, _, _, by first | trivial | rfl, rfl⟩
    · rintro ρ S' ⟨z6, z7, z8, z9, z10, z11, rfl, rfl⟩
      obtain ⟨E0, j0⟩ := addC_ext (M := M) (x := (afterC cs ts b.1 b.2, c ++ [b]))
      have hr : RchC cs (afterC cs ts b.1 b.2) := .step ht (hb b List.mem_cons_self)
      exact la_inner w h0 h2 hB ht bs _ _ z6 z7 z8 z9 z10 z11 D (fun x hx => hb x (List.mem_cons_of_mem _ hx)) (addC_inv hi hr) (crC_add hc (by simp; omega)) (by rw [j0]; exact getC_ext hg) (fun y6 y7 y8 y9 y10 y11 => h1 y6 y7 y8 y9 y10 y11)
theorem e_law_all {cs : List Stg} {S : Sto} (w : WfC cs) (h0 : cs ≠ []) (h2 : cs.length ≤ 10) (hB : Bnd cs) : ∃ (M : List CC) (o : Option (List Bt)), F_law_all [.pv (eCh cs)] S = .ok (.pv (.tuple [.dict (kvC M), eO o])) S ∧ (M.length < 400 → M = runC cs ∧ o = fwL cs (runC cs)) := by
  have z0 : szOk 0 = true := rfl
  have z1 : szOk (0 + 1) = true := rfl
  have z2 : szOk (0 + 1 + 1) = true := rfl
  have key : (F_law_all [.pv (eCh cs)] S).sat (fun _ _ => False) fun v S' => S' = S ∧ ∃ (M : List CC) (o : Option (List Bt)), v = .pv (.tuple [.dict (kvC M), eO o]) ∧ (M.length < 400 → M = runC cs ∧ o = fwL cs (runC cs)) := by
    have eb := e_begin (S := S) w h2
    unfold F_law_all
    refine sat_fun rfl ?_
    simp only [List.map_cons, List.map_nil, List.replicate, List.cons_append, List.nil_append, Nat.reduceSub]
    refine sat_then (fun ρ S' => S' = S ∧ ρ = [some (.pv (eCh cs)), some (.pv (eTs (firstC cs))), some (.pv .none), none, none, none, none, none, none, none, none, none]) ?_ ?_
    · rw [ap_Par, sat_s]
      simp only [ap_Call, ap_Cons, ap_C, ap_Nm, ap_Nil, List.getElem?_cons_zero, List.getElem?_cons_succ, Res.bind_ok, eb, sat_ok, sat_next, List.set_cons_succ, List.set_cons_zero]
      first | trivial | exact ⟨rfl, rfl⟩
    rintro ρ S' ⟨rfl, rfl⟩
    refine sat_then (fun ρ S1 => S1 = StW S' [(firstC cs, [])] ∧ ρ = [some (.pv (eCh cs)), some (.pv (eTs (firstC cs))), some (.pv (eO none)), some (.loc S'.length), some (.loc (S'.length + 1)), some (.pv (.int ((0 : Nat) : Int))), none, none, none, none, none, none]) ?_ ?_
    · rw [ap_Par3, sat_s]
      simp only [ap_Cons, dDct1, ap_Tup, ap_New, ap_C, ap_Nm, ap_Nil, List.getElem?_cons_zero, List.getElem?_cons_succ, Res.bind_ok, dkey_ts, pvs_cons, pvs_nil, Option.map_some, List.length_cons, List.length_nil, z0, z1, ite_true, sat_ok, sat_next, List.set_cons_succ, List.set_cons_zero]
      refine ⟨?_, ?_⟩
      · simp [StW, kvC, lnC, eBs]
      · simp [eO]
    rintro ρ S1 ⟨rfl, rfl⟩
    refine sat_then (fun ρ S2 => ∃ (M : List CC) (o : Option (List Bt)) (y5 y6 y7 y8 y9 y10 y11 : Option Val), S2 = StW S' M ∧ (M.length < 400 → M = runC cs ∧ o = fwL cs (runC cs)) ∧ ρ = [some (.pv (eCh cs)), some (.pv (eTs (firstC cs))), some (.pv (eO o)), some (.loc S'.length), some (.loc (S'.length + 1)), y5, y6, y7, y8, y9, y10, y11]) ?_ ?_
    · refine sat_while (I := fun m ρ S2 => ∃ (M : List CC) (i : Nat) (y6 y7 y8 y9 y10 y11 : Option Val), ρ = [some (.pv (eCh cs)), some (.pv (eTs (firstC cs))), some (.pv (eO (fwL cs (M.take i)))), some (.loc S'.length), some (.loc (S'.length + 1)), some (.pv (.int (i : Nat))), y6, y7, y8, y9, y10, y11] ∧ S2 = StW S' M ∧ InvB cs M i ∧ CrC M ∧ bfsC cs (1807 - i) M i = runC cs ∧ m = 1806 - i)
        (fun m ρ S2 ⟨M, i, y6, y7, y8, y9, y10, y11, e1, e2, inv, crs, hb, e3⟩ => ?_) wh 1806 _ _ ⟨_, 0, none, none, none, none, none, none, rfl, rfl, invB_first cs, crC_first, rfl, rfl⟩ (by decide)
      subst e1 e2 e3
      have l18 := hB _ inv.toInvN
      have hle := inv.le
      have ln : b1 fLen [.loc (S'.length + 1)] (StW S' M) = .ok (.pv (.int (M.length : Nat))) (StW S' M) := by simp [b1, Val.getR, Val.get, stW1, fLen, lnC]
      by_cases hi : i < M.length
      · have hi' : (i : Int) < M.length := by omega
        by_cases h4 : i < 400
        · have h4' : (i : Int) < 400 := by omega
          right
          refine ⟨?_, ?_⟩
          · simp [ln, l2_pv, opLt, hi', h4', bl_pv]
          · obtain ⟨x, hg⟩ : ∃ x, M[i]? = some x := ⟨_, List.getElem?_eq_getElem hi⟩
            obtain ⟨ts, c⟩ := x
            have ht : RchC cs ts := inv.rch (ts, c) (List.mem_of_getElem? hg)
            have ix := stW_ix (S := S') hg
            obtain ⟨n, hn⟩ : ∃ n, 1807 - i = n + 1 := ⟨1806 - i, by omega⟩
            have hn' : 1807 - (i + 1) = n := by omega
            rw [hn] at hb
            simp only [bfsC, hg] at hb
            have inv' := invB_next inv hg
            have lc : c.length ≤ i := crs i (ts, c) hg
            have crs' := inC_cr (cs := cs) (ts := ts) (c := c) (beatsC cs ts) M (by omega) crs
            obtain ⟨_, ⟨E0, j0⟩, _⟩ := inC_spec (c := c) ht (beatsC cs ts) M (fun b hb => hb) inv.toInvN
            have tk : (inC cs ts c (beatsC cs ts) M).take (i + 1) = M.take i ++ [(ts, c)] := by
              rw [j0, List.take_append_of_le_length (by omega), List.take_succ, hg]
              rfl
            have fe : fwL cs ((inC cs ts c (beatsC cs ts) M).take (i + 1)) = wrB cs ts c (beatsC cs ts) (fwL cs (M.take i)) := by
              rw [tk, fwL_app, wrB_eq]
              congr 1
              simp only [fwL, fwS]
              cases ((beatsC cs ts).find? fun b => badC cs ts b.1 b.2) <;> rfl
            refine sat_then (fun ρ S2 => S2 = StW S' (inC cs ts c (beatsC cs ts) M) ∧ ∃ y6 y7 y8 y9 y10 y11, ρ = [some (.pv (eCh cs)), some (.pv (eTs (firstC cs))), some (.pv (eO (wrB cs ts c (beatsC cs ts) (fwL cs (M.take i))))), some (.loc S'.length), some (.loc (S'.length + 1)), some (.pv (.int (i : Nat))), y6, y7, y8, y9, y10, y11]) ?_ ?_
            · have ebt := e_lbeats (S := StW S' M) w (ht.wf w) h0
              rw [ap_For, sat_s, ap_Items, sat_bind]
              simp only [ap_Call, ap_Cons, ap_Ix, ap_Nm, ap_Nil, List.getElem?_cons_zero, List.getElem?_cons_succ, Res.bind_ok, ix, ebt, sat_ok, itemsOf]
              exact la_inner w h0 h2 hB ht (beatsC cs ts) M _ _ _ _ _ _ _ _ (fun b h => h) inv.toInvN crs hg fun y6 y7 y8 y9 y10 y11 => ⟨rfl, _, _, _, _, _, _, rfl⟩
            rintro ρ S2 ⟨rfl, z6, z7, z8, z9, z10, z11, rfl⟩
            rw [ap_Set, sat_s]
            simp only [ap_d2, ap_C, ap_Nm, List.getElem?_cons_zero, List.getElem?_cons_succ, Res.bind_ok, l2_pv, opAdd, sat_ok, sat_next, List.set_cons_succ, List.set_cons_zero]
            exact ⟨1806 - (i + 1), by omega, _, i + 1, z6, z7, z8, z9, z10, z11, by rw [fe]; rfl, rfl, inv', crs', by rw [hn']; exact hb, rfl⟩
        · have h4' : ¬ (i : Int) < 400 := by omega
          left
          refine ⟨?_, ?_⟩
          · simp [ln, l2_pv, opLt, hi', h4', bl_pv]
          · exact ⟨M, _, _, _, _, _, _, _, _, rfl, fun z => by omega, rfl⟩
      · left
        have hi' : ¬ ((i : Int) < M.length) := by omega
        refine ⟨?_, ?_⟩
        · simp [ln, l2_pv, opLt, hi', bl_pv]
        · obtain ⟨n, hn⟩ : ∃ n, 1807 - i = n + 1 := ⟨1806 - i, by omega⟩
          have hg : M[i]? = none := by simp; omega
          rw [hn] at hb
          simp only [bfsC, hg] at hb
          exact ⟨M, _, _, _, _, _, _, _, _, rfl, fun _ => ⟨hb, by rw [← hb, List.take_of_length_le (by omega)]⟩, rfl⟩
    rintro ρ S2 ⟨M, o, y5, y6, y7, y8, y9, y10, y11, rfl, hM, rfl⟩
    rw [ap_Ret, sat_s]
    simp only [ap_Tup, ap_Cons, ap_Fz, ap_Nm, ap_Nil, List.getElem?_cons_zero, List.getElem?_cons_succ, stW0, Res.bind_ok, pvs_cons, pvs_nil, Option.map_some, List.length_cons, List.length_nil, z2, ite_true, sat_ok, sat_ret, leave_pv]
    refine ⟨?_, M, o, rfl, hM⟩
    simp [StW]
  obtain ⟨v, S', e, rfl, M, o, rfl, h⟩ := sat_ex key
  exact ⟨M, o, e, h⟩

end Law
set_option maxHeartbeats 4000000
namespace Law
open PySem PySem.Spec PyProof.Rows L2 L2H LamX Mi
def PathN (cs : List Stg) : List St → List Bt → List St → Prop
  | ts, [], us => ts = us
  | ts, b :: r, us => b ∈ beatsC cs ts ∧ wrongC cs ts b.1 b.2 = none ∧ PathN cs (afterC cs ts b.1 b.2) r us
theorem pathN_snoc {cs : List Stg} {b : Bt} : ∀ {c : List Bt} {ts us : List St}, PathN cs ts c us → b ∈ beatsC cs us → wrongC cs us b.1 b.2 = none → PathN cs ts (c ++ [b]) (afterC cs us b.1 b.2)
  | [], ts, us, h, hb, hw => by
    have h : ts = us := h
    subst h
    exact ⟨hb, hw, rfl⟩
  | a :: c, ts, us, h, hb, hw => ⟨h.1, h.2.1, pathN_snoc h.2.2 hb hw⟩
theorem pathN_wrong {cs : List Stg} {b : Bt} {wd : Nat × Str} : ∀ {c : List Bt} {ts us : List St} {n : Nat}, PathN cs ts c us → wrongC cs us b.1 b.2 = some wd → wrongL cs n ts (c ++ [b]) = some (n + c.length, wd)
  | [], ts, us, n, h, hw => by
    have h : ts = us := h
    subst h
    simp only [List.nil_append, wrongL, hw, List.length_nil, Nat.add_zero]
  | a :: c, ts, us, n, h, hw => by
    have ih := pathN_wrong (n := n + 1) h.2.2 hw
    simp only [List.cons_append, wrongL, h.2.1]
    rw [ih, List.length_cons]
    congr 2
    omega
def FndC (cs : List Stg) (c : List Bt) : Prop := ∃ a b us wd, c = a ++ [b] ∧ PathN cs (firstC cs) a us ∧ wrongC cs us b.1 b.2 = some wd
def PthsN (cs : List Stg) (M : List CC) : Prop := ∀ x ∈ M, PathN cs (firstC cs) x.2 x.1
theorem inC_path {cs : List Stg} {ts : List St} {c : List Bt} (hp : PathN cs (firstC cs) c ts) (hn : fwS cs (ts, c) = none) : ∀ (bs : List Bt) (M : List CC), (∀ b ∈ bs, b ∈ beatsC cs ts) → PthsN cs M → PthsN cs (inC cs ts c bs M)
  | [], M, _, h => h
  | b :: bs, M, hb, h => by
    refine inC_path hp hn bs _ (fun x hx => hb x (List.mem_cons_of_mem _ hx)) fun x hx => ?_
    unfold addC at hx
    split at hx
    · exact h x hx
    · rcases List.mem_append.mp hx with hx | hx
      · exact h x hx
      · simp at hx
        subst hx
        have hm := hb b List.mem_cons_self
        refine pathN_snoc hp hm ?_
        have : ((beatsC cs ts).find? fun b => badC cs ts b.1 b.2) = none := by
          unfold fwS at hn
          cases hf : ((beatsC cs ts).find? fun b => badC cs ts b.1 b.2) with
          | none => rfl
          | some z => simp only [hf] at hn; cases hn
        have := List.find?_eq_none.mp this b hm
        unfold badC at this
        cases hw : wrongC cs ts b.1 b.2 with
        | none => rfl
        | some z => rw [hw] at this; simp at this
theorem bfsC_ext {cs : List Stg} : ∀ (n : Nat) (M : List CC) (i : Nat), ∃ E, bfsC cs n M i = M ++ E
  | 0, M, i => ⟨[], by simp [bfsC]⟩
  | n + 1, M, i => by
    simp only [bfsC]
    cases hg : M[i]? with
    | none => exact ⟨[], by simp⟩
    | some x =>
      obtain ⟨ts, c⟩ := x
      simp only
      have inx : ∀ (bs : List Bt) (M : List CC), ∃ E, inC cs ts c bs M = M ++ E := by
        intro bs
        induction bs with
        | nil => intro M; exact ⟨[], by simp [inC]⟩
        | cons b bs ih =>
          intro M
          obtain ⟨E0, e0⟩ := addC_ext (M := M) (x := (afterC cs ts b.1 b.2, c ++ [b]))
          obtain ⟨E1, e1⟩ := ih (addC M (afterC cs ts b.1 b.2, c ++ [b]))
          exact ⟨E0 ++ E1, by simp only [inC]; rw [e1, e0, List.append_assoc]⟩
      obtain ⟨E0, e0⟩ := inx (beatsC cs ts) M
      obtain ⟨E1, e1⟩ := bfsC_ext n (inC cs ts c (beatsC cs ts) M) (i + 1)
      exact ⟨E0 ++ E1, by rw [e1, e0, List.append_assoc]⟩
theorem fwS_fnd {cs : List Stg} {ts : List St} {c c' : List Bt} (hp : PathN cs (firstC cs) c ts) (h : fwS cs (ts, c) = some c') : FndC cs c' := by
  unfold fwS at h
  obtain ⟨b, hb, rfl⟩ := Option.map_eq_some_iff.mp h
  have hbad := List.find?_some hb
  unfold badC at hbad
  cases hw : wrongC cs ts b.1 b.2 with
  | none => rw [hw] at hbad; cases hbad
  | some wd => exact ⟨c, b, ts, wd, rfl, hp, hw⟩
theorem bfsC_fnd {cs : List Stg} (hB : Bnd cs) : ∀ (n : Nat) (M : List CC) (i : Nat) (c : List Bt), InvB cs M i → 1806 < n + i → PthsN cs M → fwL cs (M.take i) = none → fwL cs (bfsC cs n M i) = some c → FndC cs c
  | 0, M, i, c, h, hn, _, _, _ => by have := hB _ h.toInvN; have := h.le; omega
  | n + 1, M, i, c, h, hn, hp, h0, hc => by
    simp only [bfsC] at hc
    cases hg : M[i]? with
    | none =>
      rw [hg] at hc
      have hi : M.length ≤ i := by simpa using hg
      rw [List.take_of_length_le hi] at h0
      rw [h0] at hc
      cases hc
    | some x =>
      obtain ⟨ts, c0⟩ := x
      rw [hg] at hc
      simp only at hc
      have hpt : PathN cs (firstC cs) c0 ts := hp (ts, c0) (List.mem_of_getElem? hg)
      have hr : RchC cs ts := h.rch (ts, c0) (List.mem_of_getElem? hg)
      have li : i < M.length := (List.getElem?_eq_some_iff.mp hg).1
      obtain ⟨_, ⟨E0, j0⟩, _⟩ := inC_spec (c := c0) hr (beatsC cs ts) M (fun b hb => hb) h.toInvN
      have tk : (inC cs ts c0 (beatsC cs ts) M).take (i + 1) = M.take i ++ [(ts, c0)] := by
        rw [j0, List.take_append_of_le_length (by omega), List.take_succ, hg]
        rfl
      cases hf : fwS cs (ts, c0) with
      | none => exact bfsC_fnd hB n _ (i + 1) c (invB_next h hg) (by omega) (inC_path hpt hf _ _ (fun b hb => hb) hp) (by rw [tk, fwL_app, h0]; simp [fwL, hf]) hc
      | some c1 =>
        obtain ⟨E1, e1⟩ := bfsC_ext (cs := cs) n (inC cs ts c0 (beatsC cs ts) M) (i + 1)
        have e2 : bfsC cs n (inC cs ts c0 (beatsC cs ts) M) (i + 1) = (M.take i ++ [(ts, c0)]) ++ ((inC cs ts c0 (beatsC cs ts) M).drop (i + 1) ++ E1) := by
          rw [e1, ← tk, ← List.append_assoc, List.take_append_drop]
        rw [e2, fwL_app, fwL_app, h0] at hc
        simp [fwL, hf] at hc
        subst hc
        exact fwS_fnd hpt hf
theorem runC_fnd {cs : List Stg} {c : List Bt} (hB : Bnd cs) (h : fwL cs (runC cs) = some c) : FndC cs c :=
  bfsC_fnd hB 1807 _ 0 c (invB_first cs) (by omega) (fun x hx => by simp at hx; subst hx; rfl) rfl h
def RT : List Stg → List St → Prop
  | [], [] => True
  | s :: ss, t :: ts => Rch s t ∧ RT ss ts
  | _, _ => False
theorem rt_first : ∀ cs : List Stg, RT cs (firstC cs)
  | [] => trivial
  | s :: ss => ⟨.first, rt_first ss⟩
theorem beats_of {s : Stg} {t : St} {g f : Bool} (h : g = true → reach s t = true) : (g, f) ∈ beatsS s t := by
  unfold beatsS
  cases g with
  | false => cases f <;> split <;> simp
  | true => rw [if_pos (h rfl)]; cases f <;> simp
theorem good_step : ∀ {cs : List Stg} {ts : List St} {g f : Bool} {k : Nat}, (∀ s ∈ cs, GoodP s) → RT cs ts → (cs ≠ [] → g = true → reachC cs ts = true) →
    faultC k cs (infC cs ts g f) = none ∧ RT cs (afterC cs ts g f) ∧ heldC cs (afterC cs ts g f) = heldC cs ts + b2i g - b2i (giveC cs ts g f)
  | [], [], g, f, k, _, _, _ => ⟨rfl, trivial, by simp [heldC, giveC, infC, goC, lastV, afterC]⟩
  | s :: ss, t :: ts, g, f, k, hg, hr, hb => by
    have hm : (g, headFree ss ts f) ∈ beatsS s t := beats_of (hb (by simp))
    have ok := List.all_eq_true.mp (hg s List.mem_cons_self t hr.1) _ hm
    have hw : wrongS s t g (headFree ss ts f) = none := by
      cases hq : wrongS s t g (headFree ss ts f) with
      | none => rfl
      | some z => rw [hq] at ok; cases ok
    have hf : faultS s t.1 (stepS s t g (headFree ss ts f)).1.1 g (headFree ss ts f) (stepS s t g (headFree ss ts f)).2 = none := hw
    have hv : (stepS s t g (headFree ss ts f)).2 = true → headFree ss ts f = true := fun e => by
      unfold faultS at hf
      rw [e] at hf
      cases hh : headFree ss ts f with
      | true => rfl
      | false => rw [hh] at hf; simp at hf
    have hheld : (s.row (stepS s t g (headFree ss ts f)).1.1).held = (s.row t.1).held + b2i g - b2i (stepS s t g (headFree ss ts f)).2 := by
      unfold faultS at hf
      by_cases h1 : ((stepS s t g (headFree ss ts f)).2 && !headFree ss ts f) = true
      · rw [if_pos h1] at hf; cases hf
      · rw [if_neg h1] at hf
        by_cases h2 : (s.row (stepS s t g (headFree ss ts f)).1.1).held = (s.row t.1).held + b2i g - b2i (stepS s t g (headFree ss ts f)).2
        · exact h2
        · rw [if_neg h2] at hf
          split at hf <;> cases hf
    obtain ⟨i1, i2, i3⟩ := good_step (cs := ss) (ts := ts) (g := (stepS s t g (headFree ss ts f)).2) (f := f) (k := k + 1) (fun x hx => hg x (List.mem_cons_of_mem _ hx)) hr.2 (fun h0 e => by
      have := hv e
      cases ss with
      | nil => exact absurd rfl h0
      | cons s2 ss =>
        cases ts with
        | nil => exact hr.2.elim
        | cons t2 ts => exact this)
    refine ⟨?_, ⟨.step (b := (g, headFree ss ts f)) hr.1 hm, i2⟩, ?_⟩
    · have e : infC (s :: ss) (t :: ts) g f = ⟨t.1, (stepS s t g (headFree ss ts f)).1.1, g, headFree ss ts f, (stepS s t g (headFree ss ts f)).2⟩ :: infC ss ts (stepS s t g (headFree ss ts f)).2 f := rfl
      rw [e]
      simp only [faultC, hf]
      exact i1
    · have ea : afterC (s :: ss) (t :: ts) g f = (stepS s t g (headFree ss ts f)).1 :: afterC ss ts (stepS s t g (headFree ss ts f)).2 f := rfl
      have eg : giveC (s :: ss) (t :: ts) g f = giveC ss ts (stepS s t g (headFree ss ts f)).2 f := rfl
      rw [ea, eg]
      simp only [heldC, i3, hheld]
      omega
  | [], _ :: _, _, _, _, _, h, _ => h.elim
  | _ :: _, [], _, _, _, _, h, _ => h.elim
theorem rch_rt {cs : List Stg} {ts : List St} (hg : ∀ s ∈ cs, GoodP s) (h0 : cs ≠ []) (h : RchC cs ts) : RT cs ts := by
  induction h with
  | first => exact rt_first cs
  | @step ts b _ hb ih =>
    refine (good_step (k := 0) hg ih fun _ e => ?_).2.1
    unfold beatsC at hb
    split at hb
    · assumption
    · simp at hb
      rcases hb with rfl | rfl <;> cases e
theorem good_fw {cs : List Stg} (hg : ∀ s ∈ cs, GoodP s) (h0 : cs ≠ []) : ∀ {M : List CC}, (∀ x ∈ M, RchC cs x.1) → fwL cs M = none
  | [], _ => rfl
  | x :: M, h => by
    have hx := rch_rt hg h0 (h x List.mem_cons_self)
    have e : ((beatsC cs x.1).find? fun b => badC cs x.1 b.1 b.2) = none := List.find?_eq_none.mpr fun b hb => by
      have := (good_step (g := b.1) (f := b.2) (k := 0) hg hx fun _ e => by
        obtain ⟨g, f⟩ := b
        unfold beatsC at hb
        split at hb
        · assumption
        · simp at hb
          rcases hb with ⟨rfl, rfl⟩ | ⟨rfl, rfl⟩ <;> cases e).1
      have hw : wrongC cs x.1 b.1 b.2 = none := this
      simp [badC, hw]
    simp only [fwL, fwS, e, Option.map_none]
    exact good_fw hg h0 fun y hy => h y (List.mem_cons_of_mem _ hy)
def gifts (bs : List Bt) : Nat := (bs.filter fun b => b.1).length
def outs (l : List Gone) : Nat := (l.filter fun x => lastV false x.2.1).length
theorem lastV_ne {g g' : Bool} : ∀ {is : List Inf}, is ≠ [] → lastV g is = lastV g' is
  | [], h => absurd rfl h
  | _ :: _, _ => rfl
theorem infC_ne {cs : List Stg} {ts : List St} {g f : Bool} (h : RT cs ts) (h0 : cs ≠ []) : infC cs ts g f ≠ [] := by
  cases cs with
  | nil => exact absurd rfl h0
  | cons s ss =>
    cases ts with
    | nil => exact h.elim
    | cons t ts => intro z; cases z
theorem good_course {cs : List Stg} (hg : ∀ s ∈ cs, GoodP s) (h0 : cs ≠ []) : ∀ {bs : List Bt} {ts : List St} {n : Nat}, RT cs ts → hcP cs ts (bs.map eBt) = true →
    wrongL cs n ts bs = none ∧ heldC cs (lastT cs ts bs) + (outs (goneL cs ts bs) : Nat) = heldC cs ts + (gifts bs : Nat)
  | [], ts, n, _, _ => ⟨rfl, by simp [lastT, goneL, outs, gifts]⟩
  | b :: bs, ts, n, hr, hc => by
    simp only [List.map_cons, hcP, pBt_e, Bool.and_eq_true, Bool.or_eq_true, Bool.not_eq_true'] at hc
    obtain ⟨g1, g2, g3⟩ := good_step (g := b.1) (f := b.2) (k := 0) hg hr fun _ e => by
      rcases hc.1 with h | h
      · rw [h] at e; cases e
      · exact h
    obtain ⟨i1, i2⟩ := good_course hg h0 (n := n + 1) g2 hc.2
    have hw : wrongC cs ts b.1 b.2 = none := g1
    refine ⟨by simp only [wrongL, hw]; exact i1, ?_⟩
    have eg : lastV false (infC cs ts b.1 b.2) = giveC cs ts b.1 b.2 := lastV_ne (infC_ne hr h0)
    have eo : outs (goneL cs ts (b :: bs)) = (if giveC cs ts b.1 b.2 then 1 else 0) + outs (goneL cs (afterC cs ts b.1 b.2) bs) := by
      simp only [goneL, outs, List.filter_cons, eg]
      cases giveC cs ts b.1 b.2 <;> simp <;> omega
    have ef : gifts (b :: bs) = (if b.1 then 1 else 0) + gifts bs := by
      simp only [gifts, List.filter_cons]
      cases b.1 <;> simp <;> omega
    have el : lastT cs ts (b :: bs) = lastT cs (afterC cs ts b.1 b.2) bs := rfl
    rw [eo, ef, el]
    have e1 : ((if giveC cs ts b.1 b.2 = true then 1 else 0 : Nat) : Int) = b2i (giveC cs ts b.1 b.2) := by cases giveC cs ts b.1 b.2 <;> rfl
    have e2 : ((if b.1 = true then 1 else 0 : Nat) : Int) = b2i b.1 := by cases b.1 <;> rfl
    rw [g3] at i2
    generalize (if giveC cs ts b.1 b.2 = true then 1 else 0 : Nat) = x at e1 ⊢
    generalize (if b.1 = true then 1 else 0 : Nat) = y at e2 ⊢
    omega
theorem held_first : ∀ {cs : List Stg}, WfC cs → heldC cs (firstC cs) = 0
  | [], _ => rfl
  | s :: ss, w => by
    have ih := held_first w.tl
    have h := w.hd.hd
    have r1 := w.hd.r1
    have e : (s.row 0).held = 0 := by
      unfold Stg.row
      cases hr : s.rows with
      | nil => rw [hr] at r1; simp at r1
      | cons r rr => rw [hr] at h; simpa using h
    have e0 : heldC (s :: ss) (firstC (s :: ss)) = (s.row 0).held + heldC ss (firstC ss) := rfl
    rw [e0, ih, e]
    rfl

end Law
set_option maxHeartbeats 4000000
namespace Law
open PySem PySem.Spec PyProof.Rows L2 L2H LamX Mi
theorem cs_chain : ("InvalidChain" : Str) ∈ cs := by decide +kernel
theorem nm_chain : nmOf "InvalidChain" = "chain value" := by decide +kernel
theorem so_chain : PyData.strOk ("chain value" : Str) = true := by decide +kernel
theorem sh_eO {o : Option (List Bt)} : Sh 2 (eO o) := by
  cases o with
  | none => exact sh_n
  | some c => exact sh_bs
theorem ne_eO {o : Option (List Bt)} : opNe (eO o) (eO o) = some (.bool false) := ne_self sh_eO (by decide)
theorem ne_int {a : Int} : opNe (.int a) (.int a) = some (.bool false) := ne_self (d := 0) sh_i (by decide)
theorem sat_B0 {l : Nat} {a0 a1 a2 a3 a7 a8 a9 a10 a11 a12 a13 a14 a15 a16 a17 a18 : Option Val} {cs : List Stg} {S : Sto} {E : Str → Sto → Prop} {D : Ws} (w : WfC cs) (h0 : cs ≠ []) (h2 : cs.length ≤ 2) (hs : (runC cs).length < 400)
    (h : D.n [a0, a1, a2, a3, some (.pv (eCh cs)), some (.pv (.dict (kvC (runC cs)))), some (.pv (eO (fwL cs (runC cs)))), a7, a8, a9, a10, a11, a12, a13, a14, a15, a16, a17, a18] S) :
    (B_p_law_0 [a0, a1, a2, a3, some (.pv (eCh cs)), some (.pv (.dict (kvC (runC cs)))), some (.pv (eO (fwL cs (runC cs)))), a7, a8, a9, a10, a11, a12, a13, a14, a15, a16, a17, a18] S).sat E D := by
  have hB := bnd2 w h0 h2
  have ec := e_count (S := S) w h0 (by omega) hB
  have ew := e_wrong_chain (S := S) w h0 (by omega) hB
  have ln : b1 fLen [.pv (.dict (kvC (runC cs)))] S = .ok (.pv (.int ((runC cs).length : Nat))) S := by simp [b1_pv, fLen, kvC]
  unfold B_p_law_0
  refine sat_then (fun ρ S' => S' = S ∧ ρ = [a0, a1, a2, a3, some (.pv (eCh cs)), some (.pv (.dict (kvC (runC cs)))), some (.pv (eO (fwL cs (runC cs)))), a7, a8, a9, a10, a11, a12, a13, a14, a15, a16, a17, a18]) ?_ ?_
  · refine sat_no ?_ ⟨rfl, rfl⟩
    simp only [ap_OrT, ap_Tst, ap_d2, ap_Call, ap_Cons, ap_Nm, ap_Nil, List.getElem?_cons_zero, List.getElem?_cons_succ, Res.bind_ok, ec, ln, l2_pv, ne_int, bl_pv, Bool.false_eq_true, ite_false, ew, ne_eO]
  rintro ρ S' ⟨rfl, rfl⟩
  refine sat_no ?_ h
  cases hf : fwL cs (runC cs) with
  | none =>
    simp only [ap_AndT, ap_Tst, ap_d2, ap_C, ap_Nm, List.getElem?_cons_zero, List.getElem?_cons_succ, Res.bind_ok, l2_pv, eO, opIsNot, bl_pv, Bool.false_eq_true, ite_false]
  | some c =>
    obtain ⟨a, b, us, wd, rfl, hp, hw⟩ := runC_fnd hB hf
    have hl := fwL_len runC_cr hf
    have hwl : wrongL cs 0 (firstC cs) (a ++ [b]) = some (0 + a.length, wd) := pathN_wrong hp hw
    have ef := e_first_fault (S := S') (bs := a ++ [b]) w h0 (by omega) (by omega)
    rw [hwl, Nat.zero_add] at ef
    obtain ⟨k, x⟩ := wd
    have is0 : opIsNot (eBs (a ++ [b])) .none = some (.bool true) := rfl
    have i0 : liftIx (.pv (eW3 (some (a.length, k, x)))) (.pv (.int 0)) S' = .ok (.pv (.int (a.length : Nat))) S' := by rw [ix_pv]; rfl
    have ln2 : b1 fLen [.pv (eBs (a ++ [b]))] S' = .ok (.pv (.int ((a.length : Int) + 1))) S' := by simp [b1_pv, fLen, eBs]
    have sb : opSub (.int ((a.length : Int) + 1)) (.int 1) = some (.int (a.length : Nat)) := by simp [opSub]
    simp only [ap_AndT, ap_Tst, ap_d2, ap_Ix, ap_C, ap_Call, ap_Cons, ap_Nm, ap_Nil, List.getElem?_cons_zero, List.getElem?_cons_succ, Res.bind_ok, l2_pv, eO, is0, bl_pv, ite_true, ef, i0, ln2, sb, ne_int]
theorem sat_B1 {l : Nat} {a0 a1 a3 a4 a5 a6 a7 a8 a9 a10 a11 a12 a13 a14 a15 a16 a17 a18 : Option Val} {S : Sto} {E : Str → Sto → Prop} {D : Ws} (v : Vat l S)
    (h : ∀ y4 y5 y6 S', Nx l S S' → D.n [a0, a1, some (.loc l), a3, y4, y5, y6, a7, a8, a9, a10, a11, a12, a13, a14, a15, a16, a17, a18] S') :
    (B_p_law_1 [a0, a1, some (.loc l), a3, a4, a5, a6, a7, a8, a9, a10, a11, a12, a13, a14, a15, a16, a17, a18] S).sat E D := by
  unfold B_p_law_1
  refine sat_then (fun ρ S' => ∃ cs, WfC cs ∧ cs ≠ [] ∧ cs.length ≤ 2 ∧ Nx l S S' ∧ ρ = [a0, a1, some (.loc l), a3, some (.pv (eCh cs)), a5, a6, a7, a8, a9, a10, a11, a12, a13, a14, a15, a16, a17, a18]) ?_ ?_
  · rw [ap_Set, sat_s, ap_Call, sat_bind]
    show (F_law_chain [.loc l, .pv (.int ((2 : Nat) : Int))] S).sat _ _
    exact sat_chain v (by decide) (by decide) fun cs S' wc c0 c2 nx => ⟨cs, wc, c0, c2, nx, rfl⟩
  rintro ρ S1 ⟨cs, wc, c0, c2, nx1, rfl⟩
  have hB := bnd2 wc c0 c2
  obtain ⟨M, o, el, hM⟩ := e_law_all (S := S1) wc c0 (by omega) hB
  refine sat_then (fun ρ S' => S' = S1 ∧ ρ = [a0, a1, some (.loc l), a3, some (.pv (eCh cs)), some (.pv (.dict (kvC M))), some (.pv (eO o)), a7, a8, a9, a10, a11, a12, a13, a14, a15, a16, a17, a18]) ?_ ?_
  · rw [ap_As, sat_s]
    simp only [ap_Call, ap_Cons, ap_Nm, ap_Nil, List.getElem?_cons_zero, List.getElem?_cons_succ, Res.bind_ok, el, sat_ok, gT_ap, go_cons, go_nil, ap_gN, Option.bind_some, List.set_cons_succ, List.set_cons_zero, sat_next]
    first | trivial | exact ⟨rfl, rfl⟩
  rintro ρ S2 ⟨rfl, rfl⟩
  have ln : b1 fLen [.pv (.dict (kvC M))] S2 = .ok (.pv (.int (M.length : Nat))) S2 := by simp [b1_pv, fLen, kvC]
  by_cases hl : M.length < 400
  · obtain ⟨rfl, rfl⟩ := hM hl
    have hl' : ((runC cs).length : Int) < 400 := by omega
    refine sat_yes ?_ (sat_B0 (l := l) wc c0 c2 hl (h _ _ _ _ nx1))
    simp only [ap_Tst, ap_d2, ap_Call, ap_Cons, ap_C, ap_Nm, ap_Nil, List.getElem?_cons_zero, List.getElem?_cons_succ, Res.bind_ok, ln, l2_pv, opLt, decide_eq_true hl', bl_pv]
  · have hl' : ¬ (M.length : Int) < 400 := by omega
    refine sat_no ?_ (h _ _ _ _ nx1)
    simp only [ap_Tst, ap_d2, ap_Call, ap_Cons, ap_C, ap_Nm, ap_Nil, List.getElem?_cons_zero, List.getElem?_cons_succ, Res.bind_ok, ln, l2_pv, opLt, decide_eq_false hl', bl_pv]
def gdS (p l : Nat) : Stg := qS p (min p l + 1) l
theorem gd_all : ((List.range 3).all fun p => (List.range 3).all fun l => nw (gdS (p + 1) l)) = true := by decide +kernel
theorem gd_nw {p l : Nat} (h1 : 1 ≤ p) (h3 : p ≤ 3) (h2 : l ≤ 2) : nw (gdS p l) = true := by
  have := List.all_eq_true.mp (List.all_eq_true.mp gd_all (p - 1) (List.mem_range.mpr (by omega))) l (List.mem_range.mpr (by omega))
  rwa [show p - 1 + 1 = p by omega] at this
theorem sat_good {l : Nat} {S : Sto} {E : Str → Sto → Prop} {Q : Val → Sto → Prop} (v : Vat l S) (h : ∀ s S', Wf s → nw s = true → Nx l S S' → Q (.pv (eStg s)) S') : (F_law_good_stage [.loc l] S).sat E Q := by
  unfold F_law_good_stage
  refine sat_fun rfl ?_
  simp only [List.map_cons, List.map_nil, List.replicate, List.cons_append, List.nil_append, Nat.reduceSub]
  refine sat_then (fun ρ S' => ∃ p q : Nat, q ≤ 2 ∧ 1 ≤ p ∧ p ≤ 3 ∧ Nx l S S' ∧ ρ = [some (.loc l), some (.pv (.int (q : Nat))), some (.pv (.int (p : Nat)))]) ?_ ?_
  · rw [ap_Par, sat_s]
    simp only [ap_Cons, ap_d2, ap_Call, ap_C, ap_Nm, ap_Nil, List.getElem?_cons_zero, List.getElem?_cons_succ, Res.bind_ok, sat_bind]
    refine sat_under v (by omega) (by omega) fun r S1 r0 r1 nx1 => ?_
    refine sat_under nx1.vat (by omega) (by omega) fun r' S2 r0' r1' nx2 => ?_
    simp only [l2_pv, opAdd, sat_ok, sat_next, List.set_cons_succ, List.set_cons_zero]
    refine ⟨(1 + r').toNat, r.toNat, by omega, by omega, by omega, nx1.trans nx2, ?_⟩
    rw [show ((r.toNat : Nat) : Int) = r by omega, show (((1 + r').toNat : Nat) : Int) = 1 + r' by omega]
  rintro ρ S1 ⟨p, q, hq, p1, p3, nx, rfl⟩
  have el : F_law_queue [.pv (.int (p : Nat)), .pv (.int ((min p q + 1 : Nat) : Int)), .pv (.int (q : Nat))] S1 = .ok (.pv (eStg (gdS p q))) S1 := e_lq ⟨by omega, by omega⟩
  have em : (if (q : Int) < (p : Int) then (q : Int) else (p : Int)) + 1 = ((min p q + 1 : Nat) : Int) := by split <;> omega
  rw [ap_Ret, sat_s]
  simp only [ap_Call, ap_Cons, ap_d2, ap_C, ap_Nm, ap_Nil, List.getElem?_cons_zero, List.getElem?_cons_succ, Res.bind_ok, b2min, b2m, l2_pv, opAdd]
  rw [em, el, sat_ok]
  simp only [sat_ret, leave_pv, sat_ok]
  rw [nx.take]
  exact h _ _ (wf_qS (by omega) hq) (gd_nw p1 p3 hq) nx
theorem gone_inf {cs : List Stg} (w : WfC cs) (h0 : cs ≠ []) : ∀ {bs : List Bt} {ts : List St}, WfTs cs ts → ∀ x ∈ goneL cs ts bs, x.2.1 ≠ []
  | [], _, _, x, hx => by simp [goneL] at hx
  | b :: bs, ts, h, x, hx => by
    simp only [goneL] at hx
    rcases List.mem_cons.mp hx with rfl | hx
    · cases cs with
      | nil => exact absurd rfl h0
      | cons s ss =>
        cases ts with
        | nil => exact h.elim
        | cons t ts => intro z; cases z
    · exact gone_inf w h0 (wfTs_after w h) x hx
theorem lastV_last {g : Bool} : ∀ {is : List Inf}, is ≠ [] → ∃ i, is.getLast? = some i ∧ lastV g is = i.v
  | [], h => absurd rfl h
  | [i], _ => ⟨i, rfl, rfl⟩
  | i :: j :: r, _ => by
    obtain ⟨x, h1, h2⟩ := lastV_last (g := i.v) (is := j :: r) (by simp)
    exact ⟨x, by rw [List.getLast?_cons_cons]; exact h1, h2⟩
theorem gone_last {cs : List Stg} : ∀ {bs : List Bt} {ts : List St}, bs ≠ [] → ∃ x, (goneL cs ts bs).getLast? = some x ∧ x.2.2 = heldC cs (lastT cs ts bs)
  | [], _, h => absurd rfl h
  | [b], ts, _ => ⟨_, rfl, rfl⟩
  | b :: b2 :: r, ts, _ => by
    obtain ⟨x, h1, h2⟩ := gone_last (cs := cs) (bs := b2 :: r) (ts := afterC cs ts b.1 b.2) (by simp)
    exact ⟨x, by simp only [goneL] at h1 ⊢; rw [List.getLast?_cons_cons]; exact h1, h2⟩
@[reducible] noncomputable def T2 : List (Str × Fn) := [("count_states", F_p_count_states), ("wrong_chain", F_p_wrong_chain)]
theorem sat_B2 {K : PySem.W.Frag} {ns : List Int} {k : Nat} {x2 x3 x4 x5 x6 x7 x8 x9 x10 x11 x12 x13 x14 x15 x16 x17 x18 : Option Val} {S : Sto} {E : Str → Sto → Prop} {D : Ws} (ht : S.any (isTab (tP K "law") (lamQ "law")) = true)
    (h : ∀ y2 y3 y4 y5 y6 y7 y8 y9 S', S'.any (isTab (tP K "law") (lamQ "law")) = true → D.n [some (.ro (ns.map .int)), some (.pv (.int (k : Nat))), y2, y3, y4, y5, y6, y7, y8, y9, x10, x11, x12, x13, x14, x15, x16, x17, x18] S') :
    (B_p_law_2 K [some (.ro (ns.map .int)), some (.pv (.int (k : Nat))), x2, x3, x4, x5, x6, x7, x8, x9, x10, x11, x12, x13, x14, x15, x16, x17, x18] S).sat E D := by
  have z1 : szOk (0 + 1) = true := rfl
  have z2 : szOk (0 + 1 + 1) = true := rfl
  unfold B_p_law_2
  refine sat_then (fun ρ S' => ∃ l, ρ = [some (.ro (ns.map .int)), some (.pv (.int (k : Nat))), some (.loc l), x3, x4, x5, x6, x7, x8, x9, x10, x11, x12, x13, x14, x15, x16, x17, x18] ∧ Vat l S' ∧ S'.any (isTab (tP K "law") (lamQ "law")) = true) ?_ ?_
  · rw [ap_Set, sat_s, ap_Call, sat_bind]
    show (F_law_vat [.ro (ns.map .int), .pv (.int (k : Nat))] S).sat _ _
    exact sat_vat (by omega) fun a b ha hb h2 => ⟨_, rfl, Vat.new ha hb h2, by rw [List.any_append, ht]; rfl⟩
  rintro ρ S1 ⟨l, rfl, v1, t1⟩
  refine sat_then (fun ρ S' => ∃ y3 y4 y5 y6, ρ = [some (.ro (ns.map .int)), some (.pv (.int (k : Nat))), some (.loc l), y3, y4, y5, y6, x7, x8, x9, x10, x11, x12, x13, x14, x15, x16, x17, x18] ∧ Nx l S1 S') ?_ ?_
  · have rg := rng_ok (j := 3) (S := S1) (by omega) (by omega)
    rw [ap_For, sat_s, ap_Rng1, sat_bind]
    simp only [ap_C, sat_ok]
    rw [rg, sat_ok]
    refine for_inv (I := fun i ρ S' => ∃ y3 y4 y5 y6, ρ = [some (.ro (ns.map .int)), some (.pv (.int (k : Nat))), some (.loc l), y3, y4, y5, y6, x7, x8, x9, x10, x11, x12, x13, x14, x15, x16, x17, x18] ∧ Nx l S1 S') ⟨_, _, _, _, rfl, Nx.refl v1⟩
      (fun i x ρ S' hx ⟨y3, y4, y5, y6, er, nx⟩ => ?_) (fun ρ S' ⟨y3, y4, y5, y6, er, nx⟩ => ⟨_, _, _, _, er, nx⟩)
    subst er
    exact ⟨_, rfl, sat_B1 nx.vat fun z4 z5 z6 S4 nx4 => ⟨_, _, _, _, rfl, nx.trans nx4⟩⟩
  rintro ρ S2 ⟨y3, y4, y5, y6, rfl, nx2⟩
  refine sat_then (fun ρ S' => ∃ cs : List Stg, WfC cs ∧ cs ≠ [] ∧ cs.length ≤ 4 ∧ (∀ s ∈ cs, nw s = true) ∧ ρ = [some (.ro (ns.map .int)), some (.pv (.int (k : Nat))), some (.loc l), y3, some (.pv (eCh cs)), y5, y6, x7, x8, x9, x10, x11, x12, x13, x14, x15, x16, x17, x18] ∧ Nx l S1 S') ?_ ?_
  · rw [ap_Set, sat_s]
    simp only [ap_Call, ap_Cons, ap_Nil, ap_Lc, ap_Rng1, ap_d2, ap_C, ap_Nm, List.getElem?_cons_zero, List.getElem?_cons_succ, Res.bind_ok, sat_bind]
    refine sat_under nx2.vat (by omega) (by omega) fun r S3 r0 r1 nx3 => ?_
    have nn := nx2.trans nx3
    simp only [l2_pv, opAdd, sat_ok]
    have rg := rng_ok (S := S3) (j := 1 + r) (by omega) (by omega)
    rw [rg, sat_ok]
    have key := sat_lc (E := E) (I := fun i acc S' => Nx l S1 S' ∧ ∃ cs : List Stg, acc = cs.map eStg ∧ WfC cs ∧ (∀ s ∈ cs, nw s = true) ∧ cs.length = i) (g := gN 14) (T := dYes) (A := dCall F_law_good_stage (dCons (dNm 2) dNil))
      (ρ := wipeE [some (.ro (ns.map .int)), some (.pv (.int (k : Nat))), some (.loc l), y3, y4, y5, y6, x7, x8, x9, x10, x11, x12, x13, x14, x15, x16, x17, x18] [14]) (xs := (List.range (1 + r).toNat).map fun i => Val.pv (.int (i : Nat)))
      (Q := fun a S4 => (b1 fTuple [a] S4).sat (fun c S => E c S) fun x S5 => ∃ cs : List Stg, WfC cs ∧ cs ≠ [] ∧ cs.length ≤ 4 ∧ (∀ s ∈ cs, nw s = true) ∧ [some (.ro (ns.map .int)), some (.pv (.int (k : Nat))), some (.loc l), y3, some x, y5, y6, x7, x8, x9, x10, x11, x12, x13, x14, x15, x16, x17, x18] = [some (.ro (ns.map .int)), some (.pv (.int (k : Nat))), some (.loc l), y3, some (.pv (eCh cs)), y5, y6, x7, x8, x9, x10, x11, x12, x13, x14, x15, x16, x17, x18] ∧ Nx l S1 S5)
      (fun i x acc S' hx ⟨nx, cs, ea, wc, hn, hl⟩ => ?_) (fun acc S' ⟨nx, cs, ea, wc, hn, hl⟩ => ?_) 0 [] S3 (Nat.zero_le _) ⟨nn, [], rfl, fun s hs => by simp at hs, fun s hs => by simp at hs, rfl⟩
    · rw [List.drop_zero] at key
      exact key
    · have hi : i < (1 + r).toNat := by
        have := (List.getElem?_eq_some_iff.mp hx).1
        simpa using this
      refine ⟨_, rfl, ?_⟩
      simp only [ap_Yes, sat_ok, ite_true, wipeE, List.set_cons_succ, List.set_cons_zero, ap_Call, ap_Cons, ap_Nm, ap_Nil, List.getElem?_cons_zero, List.getElem?_cons_succ, Res.bind_ok]
      refine sat_good nx.vat fun s S4 ws gs nx4 => ?_
      refine ⟨_, rfl, by rw [ea]; simp; omega, nx.trans nx4, cs ++ [s], by rw [ea]; simp, fun x hx => ?_, fun x hx => ?_, by simp [hl]⟩
      · rcases List.mem_append.mp hx with z | z
        · exact wc x z
        · simp at z; subst z; exact ws
      · rcases List.mem_append.mp hx with z | z
        · exact hn x z
        · simp at z; subst z; exact gs
    · subst ea
      have hl' : cs.length = (1 + r).toNat := by simpa using hl
      simp only [b1_pv, fTuple, sat_ok]
      exact ⟨cs, wc, by intro z; subst z; simp at hl'; omega, by omega, hn, rfl, nx⟩
  rintro ρ S3 ⟨cs, wc, c0, c4, hn, rfl, nx3⟩
  have hg : ∀ s ∈ cs, GoodP s := fun s hs => (nw_good (wc s hs)).mp (hn s hs)
  refine sat_then (fun ρ S' => S' = S3 ∧ ρ = [some (.ro (ns.map .int)), some (.pv (.int (k : Nat))), some (.loc l), y3, some (.pv (eCh cs)), y5, y6, x7, x8, x9, x10, x11, x12, x13, x14, x15, x16, x17, x18]) ?_ ?_
  · refine sat_no ?_ ⟨rfl, rfl⟩
    have lc1 := lc_gen' (g := gN 15) (T := dNotT (dTst (dCall F_p_is_good (dCons (dNm 15) dNil)))) (A := dNm 15) (ρ := wipeE [some (.ro (ns.map .int)), some (.pv (.int (k : Nat))), some (.loc l), y3, some (.pv (eCh cs)), y5, y6, x7, x8, x9, x10, x11, x12, x13, x14, x15, x16, x17, x18] [15]) (S := S3)
      (val := fun s : Stg => Val.pv (eStg s)) (keep := fun _ => false) (out := fun s => eStg s) cs (xs := (cs.map eStg).map .pv) (by simp) (fun s hs => by
        have e := e_is_good (S := S3) (wc s hs)
        rw [hn s hs] at e
        refine ⟨_, rfl, ?_, fun z => by cases z⟩
        simp [wipeE, e, bl_pv]) (by omega)
    have f0 : (cs.filter fun _ => false) = [] := by simp
    rw [f0, List.map_nil] at lc1
    have t2 : cs.take 2 ≠ [] := fun z => by
      cases cs with
      | nil => exact absurd rfl c0
      | cons a b => simp at z
    have wt2 : WfC (cs.take 2) := fun s hs => wc s (List.mem_of_mem_take hs)
    have l2 : (cs.take 2).length ≤ 2 := by rw [List.length_take]; omega
    have hB := bnd2 wt2 t2 l2
    have ew := e_wrong_chain (S := S3) wt2 t2 (by omega) hB
    rw [good_fw (fun s hs => hg s (List.mem_of_mem_take hs)) t2 (runC_inv hB).rch] at ew
    have s2 : slOf none (some 2) (eCh cs) = some (eCh (cs.take 2)) := by
      by_cases h2 : 2 ≤ cs.length
      · have := cut_lo (xs := cs.map eStg) (r := 2) (by simpa using h2)
        unfold eCh
        rw [List.map_take]
        exact this
      · have h1 : cs.length = 1 := by
          have := List.length_pos_iff.mpr c0
          omega
        obtain ⟨s, rfl⟩ := List.length_eq_one_iff.mp h1
        rfl
    have ne0 : opNe (.list []) (.list []) = some (.bool false) := rfl
    have is0 : opIsNot (eO none) .none = some (.bool false) := rfl
    have ei : itemsOf (.pv (eCh cs)) = some ((cs.map eStg).map .pv) := rfl
    simp only [ap_OrT, ap_Tst, ap_d2, ap_Lc, ap_Items, ap_Lst, ap_Sl, ap_No, ap_Pt, ap_C, ap_Call, ap_Cons, ap_Nm, ap_Nil, List.getElem?_cons_zero, List.getElem?_cons_succ, Res.bind_ok, ei, lc1, pvs_nil, List.length_nil, show szOk 0 = true from rfl, ite_true, l2_pv, ne0, bl_pv, Bool.false_eq_true, ite_false, intOf, sl_pv, s2, ew, is0]
  rintro ρ S4 ⟨rfl, rfl⟩
  refine sat_then (fun ρ S' => ∃ bs : List Bt, bs.length ≤ 30 ∧ hcP cs (firstC cs) (bs.map eBt) = true ∧ ρ = [some (.ro (ns.map .int)), some (.pv (.int (k : Nat))), some (.loc l), y3, some (.pv (eCh cs)), y5, y6, some (.pv (eBs bs)), x8, x9, x10, x11, x12, x13, x14, x15, x16, x17, x18] ∧ Nx l S1 S') ?_ ?_
  · rw [ap_Set, sat_s, ap_Call, sat_bind]
    show (F_law_course [.loc l, .pv (eCh cs), .pv (.int ((30 : Nat) : Int))] S4).sat _ _
    exact sat_course nx3.vat wc c0 c4 (by decide) fun bs S' hl hc nx => ⟨bs, hl, hc, rfl, nx3.trans nx⟩
  rintro ρ S5 ⟨bs, bl, hc, rfl, nx5⟩
  have t5 := nx5.tab v1 t1
  obtain ⟨gw, gh⟩ := good_course (n := 0) hg c0 (rt_first cs) hc
  rw [held_first wc] at gh
  have eg := e_gone (S := S5) (bs := bs) wc c0 c4 (by omega)
  refine sat_then (fun ρ S' => S' = S5 ∧ ρ = [some (.ro (ns.map .int)), some (.pv (.int (k : Nat))), some (.loc l), y3, some (.pv (eCh cs)), y5, y6, some (.pv (eBs bs)), some (.pv (.list ((goneL cs (firstC cs) bs).map eGone))), x9, x10, x11, x12, x13, x14, x15, x16, x17, x18]) ?_ ?_
  · rw [ap_Set, sat_s]
    simp only [ap_Call, ap_Cons, ap_Nm, ap_Nil, List.getElem?_cons_zero, List.getElem?_cons_succ, Res.bind_ok, eg, sat_ok, sat_next, List.set_cons_succ, List.set_cons_zero]
    first | trivial | exact ⟨rfl, rfl⟩
  rintro ρ S6 ⟨rfl, rfl⟩
  have gl : (goneL cs (firstC cs) bs).length = bs.length := by
    have : ∀ (bs : List Bt) (ts : List St), (goneL cs ts bs).length = bs.length := by
      intro bs
      induction bs with
      | nil => intro ts; rfl
      | cons b bs ih => intro ts; simp [goneL, ih]
    exact this bs _
  refine sat_then (fun ρ S' => S' = S6 ∧ ρ = [some (.ro (ns.map .int)), some (.pv (.int (k : Nat))), some (.loc l), y3, some (.pv (eCh cs)), y5, y6, some (.pv (eBs bs)), some (.pv (.list ((goneL cs (firstC cs) bs).map eGone))), some (.pv (.int (gifts bs : Nat))), x10, x11, x12, x13, x14, x15, x16, x17, x18]) ?_ ?_
  · have lc1 := lc_gen' (g := gN 16) (T := dTst (dIx (dNm 16) (dC (.int 0)))) (A := dNm 16) (ρ := wipeE [some (.ro (ns.map .int)), some (.pv (.int (k : Nat))), some (.loc l), y3, some (.pv (eCh cs)), y5, y6, some (.pv (eBs bs)), some (.pv (.list ((goneL cs (firstC cs) bs).map eGone))), x9, x10, x11, x12, x13, x14, x15, x16, x17, x18] [16]) (S := S6)
      (val := fun b : Bt => Val.pv (eBt b)) (keep := fun b => b.1) (out := fun b => eBt b) bs (xs := (bs.map eBt).map .pv) (by simp) (fun b hb => by
        have i0 : liftIx (.pv (eBt b)) (.pv (.int 0)) S6 = .ok (.pv (.bool b.1)) S6 := by rw [ix_pv]; rfl
        exact ⟨_, rfl, by simp [wipeE, i0, bl_pv], fun _ => by simp [wipeE]⟩) (by omega)
    have ei : itemsOf (.pv (eBs bs)) = some ((bs.map eBt).map .pv) := rfl
    have ln : b1 fLen [.pv (.list ((bs.filter fun b => b.1).map fun b => eBt b))] S6 = .ok (.pv (.int (gifts bs : Nat))) S6 := by simp [b1_pv, fLen, gifts]
    rw [ap_Set, sat_s]
    simp only [ap_Call, ap_Cons, ap_Lc, ap_Items, ap_Nm, ap_Nil, List.getElem?_cons_zero, List.getElem?_cons_succ, Res.bind_ok, ei, lc1, ln, sat_ok, sat_next, List.set_cons_succ, List.set_cons_zero]
    first | trivial | exact ⟨rfl, rfl⟩
  rintro ρ S7 ⟨rfl, rfl⟩
  refine sat_then (fun ρ S' => S' = S7 ∧ ρ = [some (.ro (ns.map .int)), some (.pv (.int (k : Nat))), some (.loc l), y3, some (.pv (eCh cs)), y5, y6, some (.pv (eBs bs)), some (.pv (.list ((goneL cs (firstC cs) bs).map eGone))), some (.pv (.int (heldC cs (lastT cs (firstC cs) bs)))), x10, x11, x12, x13, x14, x15, x16, x17, x18]) ?_ ?_
  · have lc1 := lc_gen' (g := gN 17) (T := dTst (dIx (dIx (dIx (dNm 17) (dC (.int 1))) (dNeg (dC (.int 1)))) (dC (.int 4)))) (A := dNm 17) (ρ := wipeE [some (.ro (ns.map .int)), some (.pv (.int (k : Nat))), some (.loc l), y3, some (.pv (eCh cs)), y5, y6, some (.pv (eBs bs)), some (.pv (.list ((goneL cs (firstC cs) bs).map eGone))), some (.pv (.int (gifts bs : Nat))), x10, x11, x12, x13, x14, x15, x16, x17, x18] [17]) (S := S7)
      (val := fun x : Gone => Val.pv (eGone x)) (keep := fun x => lastV false x.2.1) (out := fun x => eGone x) (goneL cs (firstC cs) bs) (xs := ((goneL cs (firstC cs) bs).map eGone).map .pv) (by simp) (fun x hx => by
        obtain ⟨i, hi1, hi2⟩ := lastV_last (g := false) (gone_inf wc c0 (wfTs_first wc) x hx)
        have i1 : liftIx (.pv (eGone x)) (.pv (.int 1)) S7 = .ok (.pv (.list (x.2.1.map eInf))) S7 := by rw [ix_pv]; rfl
        have i2 : liftIx (.pv (.list (x.2.1.map eInf))) (.pv (.int (-1))) S7 = .ok (.pv (eInf i)) S7 := by rw [ix_pv, ix_lstL, List.getLast?_map, hi1]; rfl
        have i3 : liftIx (.pv (eInf i)) (.pv (.int 4)) S7 = .ok (.pv (.bool i.v)) S7 := by rw [ix_pv]; rfl
        exact ⟨_, rfl, by simp [wipeE, i1, i2, i3, bl_pv, hi2], fun _ => by simp [wipeE]⟩) (by rw [gl]; omega)
    have ei : itemsOf (.pv (.list ((goneL cs (firstC cs) bs).map eGone))) = some (((goneL cs (firstC cs) bs).map eGone).map .pv) := rfl
    have ln : b1 fLen [.pv (.list (((goneL cs (firstC cs) bs).filter fun x => lastV false x.2.1).map fun x => eGone x))] S7 = .ok (.pv (.int (outs (goneL cs (firstC cs) bs) : Nat))) S7 := by simp [b1_pv, fLen, outs]
    have sb : opSub (.int (gifts bs : Nat)) (.int (outs (goneL cs (firstC cs) bs) : Nat)) = some (.int (heldC cs (lastT cs (firstC cs) bs))) := by
      have : ((gifts bs : Nat) : Int) - (outs (goneL cs (firstC cs) bs) : Nat) = heldC cs (lastT cs (firstC cs) bs) := by omega
      simp only [opSub, this]
    rw [ap_Set, sat_s]
    simp only [ap_d2, ap_Call, ap_Cons, ap_Lc, ap_Items, ap_Nm, ap_Nil, List.getElem?_cons_zero, List.getElem?_cons_succ, Res.bind_ok, ei, lc1, ln, l2_pv, sb, sat_ok, sat_next, List.set_cons_succ, List.set_cons_zero]
    first | trivial | exact ⟨rfl, rfl⟩
  rintro ρ S8 ⟨rfl, rfl⟩
  refine sat_then (fun ρ S' => S' = S8 ∧ ρ = [some (.ro (ns.map .int)), some (.pv (.int (k : Nat))), some (.loc l), y3, some (.pv (eCh cs)), y5, y6, some (.pv (eBs bs)), some (.pv (.list ((goneL cs (firstC cs) bs).map eGone))), some (.pv (.int (heldC cs (lastT cs (firstC cs) bs)))), x10, x11, x12, x13, x14, x15, x16, x17, x18]) ?_ ?_
  · refine sat_no ?_ ⟨rfl, rfl⟩
    have ef := e_first_fault (S := S8) (bs := bs) wc c0 c4 (by omega)
    rw [gw] at ef
    have is0 : opIsNot (eW3 none) .none = some (.bool false) := rfl
    have ne : opNe (eBs bs) (.tuple []) = some (.bool (!bs.isEmpty)) := by
      rw [ne_of (d := 2) sh_bs (sh_t (d := 1) fun x hx => by simp at hx) (by decide)]
      cases bs <;> rfl
    simp only [ap_OrT, ap_AndT, ap_Tst, ap_d2, ap_C, ap_Tup, ap_Call, ap_Cons, ap_Nm, ap_Nil, List.getElem?_cons_zero, List.getElem?_cons_succ, Res.bind_ok, ef, l2_pv, is0, bl_pv, Bool.false_eq_true, ite_false, pvs_nil, List.length_nil, show szOk 0 = true from rfl, ite_true, ne]
    by_cases hb : bs = []
    · subst hb
      simp
    · obtain ⟨x, hx1, hx2⟩ := gone_last (cs := cs) (ts := firstC cs) hb
      have i1 : liftIx (.pv (.list ((goneL cs (firstC cs) bs).map eGone))) (.pv (.int (-1))) S8 = .ok (.pv (eGone x)) S8 := by rw [ix_pv, ix_lstL, List.getLast?_map, hx1]; rfl
      have i2 : liftIx (.pv (eGone x)) (.pv (.int 2)) S8 = .ok (.pv (.int (heldC cs (lastT cs (firstC cs) bs)))) S8 := by rw [ix_pv, ← hx2]; rfl
      have hbe : (!bs.isEmpty) = true := by
        cases bs with
        | nil => exact absurd rfl hb
        | cons a b => rfl
      simp only [hbe, ite_true, ap_Tst, ap_d2, ap_Ix, ap_Neg, ap_C, ap_Nm, List.getElem?_cons_zero, List.getElem?_cons_succ, Res.bind_ok, i1, i2, l2_pv, ne_int, bl_pv]
  rintro ρ S9 ⟨rfl, rfl⟩
  refine sat_no ?_ (h _ _ _ _ _ _ _ _ _ t5)
  obtain ⟨s, ss, hcs⟩ := List.exists_cons_of_ne_nil c0
  have i0 : liftIx (.pv (eCh cs)) (.pv (.int 0)) S9 = .ok (.pv (eStg s)) S9 := by rw [hcs]; exact ix_ch0
  have ws : Wf s := wc s (by rw [hcs]; exact List.mem_cons_self)
  have gs := gd_stg ws
  have go : Gd 0 6 (.tuple [eStg s, .none]) := gd_tup (by simp) fun x hx => by
    simp at hx
    rcases hx with rfl | rfl
    · exact gs
    · exact ⟨rfl, Nat.zero_le _⟩
  have pc : pChain (.tuple [eStg s, .none]) = false := by
    simp [pChain, pStage]
  have er : ∀ (x : Str) (F : Fn), T2.lookup x = some F → F [.pv (.tuple [eStg s, .none])] S9 = .err "InvalidChain" none S9 →
      dErr Law.cs (tP K "law") (lamQ "law") (dCallV 18 T2 (dCons (dTup (dCons (dIx (dNm 4) (dC (.int 0))) (dCons (dC .none) dNil))) dNil)) [some (.ro (ns.map .int)), some (.pv (.int (k : Nat))), some (.loc l), y3, some (.pv (eCh cs)), y5, y6, some (.pv (eBs bs)), some (.pv (.list ((goneL cs (firstC cs) bs).map eGone))), some (.pv (.int (heldC cs (lastT cs (firstC cs) bs)))), x10, x11, x12, x13, x14, x15, x16, x17, some (.fn x)] S9 = .ok (.pv (.str "chain value")) S9 := fun x F hl hF => by
    rw [e_err t5 (c := "InvalidChain") ?_ cs_chain, nm_chain]
    unfold dCallV
    simp only [List.getElem?_cons_zero, List.getElem?_cons_succ, ap_Cons, ap_Tup, ap_Ix, ap_C, ap_Nm, ap_Nil, Res.bind_ok, i0, pvs_cons, pvs_nil, Option.map_some, List.length_cons, List.length_nil, z2, ite_true]
    rw [hl]
    exact hF
  have m2 : opMul (.list [.str "chain value"]) (.int 2) = some (.list [.str "chain value", .str "chain value"]) := by
    rw [show (.int 2 : PyData) = .int ((2 : Nat) : Int) from rfl, mulL [.str "chain value"] 2 (by decide) (by simp)]; rfl
  have ne : opNe (.list [.str "chain value", .str "chain value"]) (.list [.str "chain value", .str "chain value"]) = some (.bool false) := ne_self (d := 1) (sh_l (d := 0) fun x hx => by simp at hx; subst hx; exact sh_s so_chain) (by decide)
  have di : ∀ ρ S, (dDisp (dCons (dFn "count_states") (dCons (dFn "wrong_chain") dNil))) ρ S = .ok [.fn "count_states", .fn "wrong_chain"] S := fun _ _ => rfl
  simp only [ap_Tst, ap_d2, ap_Lc, di, Res.bind_ok, loopC, ap_gN, wipeE, List.set_cons_succ, List.set_cons_zero, ap_Yes, er "count_states" F_p_count_states rfl (x_count go.cl (Nat.le_trans go.2 (by decide)) pc), er "wrong_chain" F_p_wrong_chain rfl (x_wrong_chain go.cl (Nat.le_trans go.2 (by decide)) pc), List.length_nil, List.nil_append, List.cons_append, List.length_cons, List.length_append, show szOk (0 + 1) = true from rfl, show szOk (0 + 1 + 1) = true from rfl, ite_true, ap_Lst, ap_Cons, ap_C, ap_Nil, pvs_cons, pvs_nil, Option.map_some, l2_pv, m2, ne, bl_pv]

end Law
set_option maxHeartbeats 4000000
namespace Law
open PySem PySem.Spec PyProof.Rows L2 L2H LamX Mi
def wfB (s : Stg) : Bool := decide (s.late ≤ 2) && (decide (1 ≤ s.rows.length) && (decide (s.rows.length ≤ 6) && ((s.rows.all fun r => decide (0 ≤ r.held) && (decide (r.held ≤ 6) && (decide (r.mv.length = 4) && r.mv.all fun m => decide (m.1 < s.rows.length)))) && decide ((s.rows.headD default).held = 0))))
theorem wf_of {s : Stg} (h : wfB s = true) : Wf s := by
  simp only [wfB, Bool.and_eq_true, decide_eq_true_eq, List.all_eq_true] at h
  obtain ⟨h1, h2, h3, h4, h5⟩ := h
  exact ⟨h1, h2, h3, fun r hr => ⟨(h4 r hr).1, (h4 r hr).2.1, (h4 r hr).2.2.1, (h4 r hr).2.2.2⟩, h5⟩
def hOne : Stg := qS 1 1 0
def hTwo : Stg := qS 2 1 0
def hLate : Stg := qS 2 1 1
def hL2 : Stg := qS 2 2 1
def hSlow : Stg := ⟨0, [qRw 1 1 0, ⟨1, false, [(1, false), (2, false), (1, false), (2, false)]⟩, ⟨1, false, [(2, false), (0, true), (2, false), (0, true)]⟩]⟩
theorem wf_one : Wf hOne := wf_qS (by decide) (by decide)
theorem wf_two : Wf hTwo := wf_qS (by decide) (by decide)
theorem wf_late : Wf hLate := wf_qS (by decide) (by decide)
theorem wf_l2 : Wf hL2 := wf_qS (by decide) (by decide)
theorem wf_slow : Wf hSlow := wf_of (by decide +kernel)
theorem n_one : (runC [hOne]).length = 2 := by decide +kernel
theorem n_two : (runC [hOne, hOne]).length = 4 := by decide +kernel
theorem n_l2 : (runC [hL2]).length = 5 := by decide +kernel
theorem f_11 : fwL [hOne, hOne] (runC [hOne, hOne]) = none := by decide +kernel
theorem f_2l : fwL [hTwo, hLate] (runC [hTwo, hLate]) = some [(true, false), (true, false), (true, false), (false, false)] := by decide +kernel
theorem f_sl : fwL [hSlow, hLate] (runC [hSlow, hLate]) = none := by decide +kernel
theorem f_l : (fwL [hLate] (runC [hLate])).isSome = true := by decide +kernel
theorem nw_slow : nw hSlow = true := by decide +kernel
theorem wfc1 {a : Stg} (h : Wf a) : WfC [a] := fun x hx => by simp at hx; subst hx; exact h
theorem wfc2 {a b : Stg} (h : Wf a) (h' : Wf b) : WfC [a, b] := fun x hx => by
  simp at hx
  rcases hx with rfl | rfl
  · exact h
  · exact h'
theorem sat_law {K : PySem.W.Frag} {ns : List Int} {S : Sto} {E : Str → Sto → Prop} {Q : Val → Sto → Prop} (hl : ns.length ≤ 63) (ht : S.any (isTab (tP K "law") (lamQ "law")) = true) (h : ∀ S', Q (.pv (.bool true)) S') : (F_p_law K [.ro (ns.map .int)] S).sat E Q := by
  have z1 : szOk (0 + 1) = true := rfl
  have z2 : szOk (0 + 1 + 1) = true := rfl
  have z3 : szOk (0 + 1 + 1 + 1) = true := rfl
  unfold F_p_law
  refine sat_fun rfl ?_
  show (dSeq _ _ [some (.ro (ns.map .int)), none, none, none, none, none, none, none, none, none, none, none, none, none, none, none, none, none, none] S).sat _ _
  refine sat_then (fun ρ S' => ∃ y1 y2 y3 y4 y5 y6 y7 y8 y9, ρ = [some (.ro (ns.map .int)), y1, y2, y3, y4, y5, y6, y7, y8, y9, none, none, none, none, none, none, none, none, none]) ?_ ?_
  · have rg := rng_ok (j := ((max 4 (min 10 ns.length) : Nat) : Int)) (S := S) (by omega) (by omega)
    have e1 : b1 fLen [.ro (ns.map .int)] S = .ok (.pv (.int ns.length)) S := by simp [b1, fLen]
    have e2 : (if (if (ns.length : Int) < 10 then (ns.length : Int) else 10) > 4 then (if (ns.length : Int) < 10 then (ns.length : Int) else 10) else 4) = ((max 4 (min 10 ns.length) : Nat) : Int) := by split <;> split <;> omega
    rw [ap_For, sat_s, ap_Rng1, sat_bind]
    simp only [ap_Call, ap_Cons, ap_C, ap_Nm, ap_Nil, Res.bind_ok, List.getElem?_cons_zero, e1, b2min, b2max, b2m, sat_ok]
    rw [e2, rg, sat_ok]
    refine for_inv (I := fun _ ρ S' => (∃ y1 y2 y3 y4 y5 y6 y7 y8 y9, ρ = [some (.ro (ns.map .int)), y1, y2, y3, y4, y5, y6, y7, y8, y9, none, none, none, none, none, none, none, none, none]) ∧ S'.any (isTab (tP K "law") (lamQ "law")) = true)
      ⟨⟨none, none, none, none, none, none, none, none, none, rfl⟩, ht⟩ (fun i x ρ S' hx ⟨⟨y1, y2, y3, y4, y5, y6, y7, y8, y9, er⟩, t⟩ => ?_) (fun ρ S' hh => hh.1)
    obtain ⟨i, rfl⟩ : ∃ i : Nat, x = .pv (.int (i : Nat)) := by
      rw [List.getElem?_map] at hx
      obtain ⟨j, _, rfl⟩ := Option.map_eq_some_iff.mp hx
      exact ⟨j, rfl⟩
    subst er
    refine ⟨_, rfl, ?_⟩
    exact sat_B2 t fun z2 z3 z4 z5 z6 z7 z8 z9 S2 t2 => ⟨⟨_, _, _, _, _, _, _, _, _, rfl⟩, t2⟩
  rintro ρ S1 ⟨y1, y2, y3, y4, y5, y6, y7, y8, y9, rfl⟩
  have q1 : ∀ S, F_law_queue [.pv (.int 1), .pv (.int 1), .pv (.int 0)] S = .ok (.pv (eStg hOne)) S := fun S => e_lq (p := 1) (s := 1) (l := 0) (by decide)
  have q2 : ∀ S, F_law_queue [.pv (.int 2), .pv (.int 1), .pv (.int 0)] S = .ok (.pv (eStg hTwo)) S := fun S => e_lq (p := 2) (s := 1) (l := 0) (by decide)
  have q3 : ∀ S, F_law_queue [.pv (.int 2), .pv (.int 1), .pv (.int 1)] S = .ok (.pv (eStg hLate)) S := fun S => e_lq (p := 2) (s := 1) (l := 1) (by decide)
  have q4 : ∀ S, F_law_queue [.pv (.int 2), .pv (.int 2), .pv (.int 1)] S = .ok (.pv (eStg hL2)) S := fun S => e_lq (p := 2) (s := 2) (l := 1) (by decide)
  have c1 : ∀ S, F_p_count_states [.pv (.tuple [eStg hOne])] S = .ok (.pv (.int 2)) S := fun S => by
    have := e_count (S := S) (wfc1 wf_one) (by simp) (by simp) (bnd2 (wfc1 wf_one) (by simp) (by simp))
    rw [n_one] at this
    exact this
  have c2 : ∀ S, F_p_count_states [.pv (.tuple [eStg hOne, eStg hOne])] S = .ok (.pv (.int 4)) S := fun S => by
    have := e_count (S := S) (wfc2 wf_one wf_one) (by simp) (by simp) (bnd2 (wfc2 wf_one wf_one) (by simp) (by simp))
    rw [n_two] at this
    exact this
  have c3 : ∀ S, F_p_count_states [.pv (.tuple [eStg hL2])] S = .ok (.pv (.int 5)) S := fun S => by
    have := e_count (S := S) (wfc1 wf_l2) (by simp) (by simp) (bnd2 (wfc1 wf_l2) (by simp) (by simp))
    rw [n_l2] at this
    exact this
  have w1 : ∀ S, F_p_wrong_chain [.pv (.tuple [eStg hOne, eStg hOne])] S = .ok (.pv .none) S := fun S => by
    have := e_wrong_chain (S := S) (wfc2 wf_one wf_one) (by simp) (by simp) (bnd2 (wfc2 wf_one wf_one) (by simp) (by simp))
    rw [f_11] at this
    exact this
  have w2 : ∀ S, F_p_wrong_chain [.pv (.tuple [eStg hTwo, eStg hLate])] S = .ok (.pv (eBs [(true, false), (true, false), (true, false), (false, false)])) S := fun S => by
    have := e_wrong_chain (S := S) (wfc2 wf_two wf_late) (by simp) (by simp) (bnd2 (wfc2 wf_two wf_late) (by simp) (by simp))
    rw [f_2l] at this
    exact this
  have w3 : ∀ S, F_p_wrong_chain [.pv (.tuple [eStg hSlow, eStg hLate])] S = .ok (.pv .none) S := fun S => by
    have := e_wrong_chain (S := S) (wfc2 wf_slow wf_late) (by simp) (by simp) (bnd2 (wfc2 wf_slow wf_late) (by simp) (by simp))
    rw [f_sl] at this
    exact this
  have w4 : ∀ S, ∃ c, F_p_wrong_chain [.pv (.tuple [eStg hLate])] S = .ok (.pv (eBs c)) S := fun S => by
    have := e_wrong_chain (S := S) (wfc1 wf_late) (by simp) (by simp) (bnd2 (wfc1 wf_late) (by simp) (by simp))
    obtain ⟨c, hc⟩ := Option.isSome_iff_exists.mp f_l
    rw [hc] at this
    exact ⟨c, this⟩
  refine sat_then (fun ρ S' => S' = S1 ∧ ρ = [some (.ro (ns.map .int)), y1, y2, y3, y4, y5, y6, y7, y8, y9, some (.pv (eStg hOne)), some (.pv (eStg hTwo)), some (.pv (eStg hLate)), none, none, none, none, none, none]) ?_ ?_
  · rw [ap_Par3, sat_s]
    simp only [ap_Call, ap_Cons, ap_C, ap_Nil, Res.bind_ok, q1, q2, q3, sat_ok, sat_next, List.set_cons_succ, List.set_cons_zero]
    first | trivial | exact ⟨rfl, rfl⟩
  rintro ρ S2 ⟨rfl, rfl⟩
  have ne1 : opNe (.list [.int 2, .int 4, .int 5]) (.list [.int 2, .int 4, .int 5]) = some (.bool false) := rfl
  refine sat_then (fun ρ S' => S' = S2 ∧ ρ = [some (.ro (ns.map .int)), y1, y2, y3, y4, y5, y6, y7, y8, y9, some (.pv (eStg hOne)), some (.pv (eStg hTwo)), some (.pv (eStg hLate)), none, none, none, none, none, none]) ?_ ?_
  · refine sat_no ?_ ⟨rfl, rfl⟩
    simp only [ap_Tst, ap_d2, ap_Lst, ap_Tup, ap_Call, ap_Cons, ap_C, ap_Nm, ap_Nil, List.getElem?_cons_zero, List.getElem?_cons_succ, Res.bind_ok, q4, pvs_cons, pvs_nil, Option.map_some, List.length_cons, List.length_nil, z1, z2, z3, ite_true, c1, c2, c3, l2_pv, ne1, bl_pv]
  rintro ρ S3 ⟨rfl, rfl⟩
  have m3 : opMul (.tuple [eBt (true, false)]) (.int 3) = some (eBs [(true, false), (true, false), (true, false)]) := by
    rw [show (.int 3 : PyData) = .int ((3 : Nat) : Int) from rfl, mulT _ 3 (by decide) (by simp)]; rfl
  have m3' : opMul (.tuple [.tuple [.bool true, .bool false]]) (.int 3) = some (eBs [(true, false), (true, false), (true, false)]) := m3
  have ad : opAdd (eBs [(true, false), (true, false), (true, false)]) (.tuple [.tuple [.bool false, .bool false]]) = some (eBs [(true, false), (true, false), (true, false), (false, false)]) := rfl
  have ne2 : opNe (eBs [(true, false), (true, false), (true, false), (false, false)]) (eBs [(true, false), (true, false), (true, false), (false, false)]) = some (.bool false) := ne_self (d := 2) sh_bs (by decide)
  have is0 : opIsNot .none .none = some (.bool false) := rfl
  refine sat_then (fun ρ S' => S' = S3 ∧ ρ = [some (.ro (ns.map .int)), y1, y2, y3, y4, y5, y6, y7, y8, y9, some (.pv (eStg hOne)), some (.pv (eStg hTwo)), some (.pv (eStg hLate)), none, none, none, none, none, none]) ?_ ?_
  · refine sat_no ?_ ⟨rfl, rfl⟩
    simp only [ap_OrT, ap_Tst, ap_d2, ap_Tup, ap_Call, ap_Cons, ap_C, ap_Nm, ap_Nil, List.getElem?_cons_zero, List.getElem?_cons_succ, Res.bind_ok, pvs_cons, pvs_nil, Option.map_some, List.length_cons, List.length_nil, z1, z2, ite_true, w1, w2, l2_pv, is0, bl_pv, Bool.false_eq_true, ite_false, m3', ad, ne2]
  rintro ρ S4 ⟨rfl, rfl⟩
  have mm1 : opMul (.tuple [.tuple [.int 1, .bool false], .tuple [.int 2, .bool false]]) (.int 2) = some (.tuple [.tuple [.int 1, .bool false], .tuple [.int 2, .bool false], .tuple [.int 1, .bool false], .tuple [.int 2, .bool false]]) := by
    rw [show (.int 2 : PyData) = .int ((2 : Nat) : Int) from rfl, mulT _ 2 (by decide) (by simp)]; rfl
  have mm2 : opMul (.tuple [.tuple [.int 2, .bool false], .tuple [.int 0, .bool true]]) (.int 2) = some (.tuple [.tuple [.int 2, .bool false], .tuple [.int 0, .bool true], .tuple [.int 2, .bool false], .tuple [.int 0, .bool true]]) := by
    rw [show (.int 2 : PyData) = .int ((2 : Nat) : Int) from rfl, mulT _ 2 (by decide) (by simp)]; rfl
  have sl : slOf none (some 1) (.tuple (hOne.rows.map eRow)) = some (.tuple [eRow (qRw 1 1 0)]) := rfl
  have ad2 : opAdd (.tuple [eRow (qRw 1 1 0)]) (.tuple [.tuple [.int 1, .bool false, .tuple [.tuple [.int 1, .bool false], .tuple [.int 2, .bool false], .tuple [.int 1, .bool false], .tuple [.int 2, .bool false]]], .tuple [.int 1, .bool false, .tuple [.tuple [.int 2, .bool false], .tuple [.int 0, .bool true], .tuple [.int 2, .bool false], .tuple [.int 0, .bool true]]]]) = some (.tuple (hSlow.rows.map eRow)) := rfl
  refine sat_then (fun ρ S' => S' = S4 ∧ ρ = [some (.ro (ns.map .int)), y1, y2, y3, y4, y5, y6, y7, y8, y9, some (.pv (eStg hOne)), some (.pv (eStg hTwo)), some (.pv (eStg hLate)), some (.pv (eStg hSlow)), none, none, none, none, none]) ?_ ?_
  · rw [ap_Set, sat_s]
    simp only [ap_d2, ap_Tup, ap_Sl, ap_No, ap_Pt, ap_Ix, ap_Cons, ap_C, ap_Nm, ap_Nil, List.getElem?_cons_zero, List.getElem?_cons_succ, Res.bind_ok, ix_stg, intOf, sl_pv, sl, pvs_cons, pvs_nil, Option.map_some, List.length_cons, List.length_nil, z1, z2, z3, ite_true, l2_pv, mm1, mm2, ad2, sat_ok, sat_next, List.set_cons_succ, List.set_cons_zero]
    first | trivial | exact ⟨rfl, rfl⟩
  rintro ρ S5 ⟨rfl, rfl⟩
  have eg := e_is_good (S := S5) wf_slow
  rw [nw_slow] at eg
  obtain ⟨c, w4'⟩ := w4 S5
  have is1 : opIs .none .none = some (.bool true) := rfl
  have is2 : opIsNot (eBs c) .none = some (.bool true) := rfl
  rw [ap_Ret, sat_s]
  simp only [ap_And, ap_d2, ap_Tup, ap_Call, ap_Cons, ap_C, ap_Nm, ap_Nil, List.getElem?_cons_zero, List.getElem?_cons_succ, Res.bind_ok, eg, bl_pv, ite_true, pvs_cons, pvs_nil, Option.map_some, List.length_cons, List.length_nil, z1, z2, w3, w4', l2_pv, is1, is2, sat_ok, sat_ret, leave_pv]
  exact h _

end Law
set_option maxHeartbeats 4000000
namespace Law
open PySem PySem.Spec PyProof.Rows L2 L2H LamX Mi
def topS (i : Nat) : Stmt := PySem.Challenge.pw_latestops_k07_whole_chains_of_good_stage.main.body.getD i (.Pass ⟨0, 0, 0, 0⟩)
def fa : List He.Fa := [.free "tuple", .free "enumerate", .free "len", .free "int", .free "range", .free "max", .free "min", .free "sum", .free "abs", .int "MOST_STATES" 3000, .free "isinstance", .free "bool", .int "MOST_HELD" 6, .int "MOST_ROWS" 6, .exc "InvalidChain", .glo "InvalidChain", .exc "InvalidStage", .glo "InvalidStage", .glo "wrong_chain", .glo "count_states", .glo "_law_open", .glo "_law_beats", .glo "_law_begin", .glo "_law_fault", .glo "_law_on", .glo "_law_all", .glo "_law_under", .glo "_law_any_row", .glo "_law_otherwise", .glo "_law_queue", .glo "_law_some", .glo "_law_stage", .glo "_law_chain", .glo "_law_word", .glo "_law_gone", .glo "_law_can_give", .glo "_law_course", .glo "_law_first_fault", .glo "_law_good_stage", .glo "_law_vat", .glo "words_of", .glo "reached", .glo "beats_of", .glo "frees_of", .glo "step", .glo "wrong_word", .glo "chain_step", .glo "first_state", .glo "first_of", .glo "all_ways", .glo "is_whole", .glo "is_move", .glo "is_row", .glo "has_stage", .glo "has_chain", .glo "need_chain", .glo "need_stage", .glo "found_wrong", .glo "never_wrong", .glo "is_good", .glo "law", .glo "InvalidCourse", .glo "InvalidBeat", .glo "InvalidPattern", .glo "InvalidNumber", .glo "InvalidSeen", .glo "Unlike", .glo "NothingToUndo", .glo "InvalidText", .glo "TooMany", .glo "Wrong", .glo "StopError", .glo "_law_error", .glo "_law_names", .free "zip", .free "ValueError"]
def fn : List He.DefD := [dOf "_law_open" (topS 59), dOf "_law_beats" (topS 60), dOf "_law_begin" (topS 57), dOf "_law_fault" (topS 55), dOf "_law_on" (topS 58), dOf "_law_all" (topS 63), dOf "_law_under" (topS 44), dOf "_law_any_row" (topS 48), dOf "_law_otherwise" (topS 49), dOf "_law_queue" (topS 46), dOf "_law_some" (topS 45), dOf "_law_stage" (topS 47), dOf "_law_chain" (topS 50), dOf "_law_word" (topS 51), dOf "_law_gone" (topS 52), dOf "_law_can_give" (topS 53), dOf "_law_course" (topS 54), dOf "_law_first_fault" (topS 56), dOf "_law_good_stage" (topS 64), dOf "_law_vat" (topS 43), dOf "words_of" (topS 23), dOf "reached" (topS 24), dOf "beats_of" (topS 27), dOf "frees_of" (topS 33), dOf "step" (topS 25), dOf "wrong_word" (topS 26), dOf "chain_step" (topS 34), dOf "first_state" (topS 22), dOf "first_of" (topS 32), dOf "all_ways" (topS 35), dOf "is_whole" (topS 17), dOf "is_move" (topS 18), dOf "is_row" (topS 19), dOf "has_stage" (topS 20), dOf "has_chain" (topS 30), dOf "need_chain" (topS 31), dOf "count_states" (topS 36), dOf "need_stage" (topS 21), dOf "found_wrong" (topS 39), dOf "never_wrong" (topS 40), dOf "is_good" (topS 41), dOf "wrong_chain" (topS 37), dOf "law" (topS 65), dOf "_law_error" (topS 62), dOf "_law_names" (topS 61)]
def tf : List Str := ["law"]
section
variable {P : Program} {w : World} {K : PySem.W.Frag} {mg : Str → Option Value} {base : Heap}
abbrev st_law_open : Stmt := topS 59
abbrev N_law_open : List Str := ["chain", "state", "line"]
theorem sc_law_open : FnScope N_law_open ["chain", "state"] (defScope st_law_open) := ⟨rfl, rfl, rfl, by decide +kernel, rfl, by decide +kernel, by decide +kernel⟩
theorem ok_law_open (T : Tx fa fn K mg)  : DefOk P w K mg base 1 "_law_open" 2 (F_law_open) := def_ok (k := 0) T (M 0) (M 20) sc_law_open (fun _ _ _ _ _ _ us hl => match us, hl with | [_, _], _ => rfl) fun fd A outer s H E F hr tk =>
  have S := sc_law_open
  (s_cons (s_set S.nd (r_bin oAdd (r_ix (hu65 hr) (r_ix (hu65 hr) (r_nm 1) r_int) r_int) (r_tup (r_cons (r_ix (hu65 hr) (r_ix (hu65 hr) (r_ix (hu65 hr) (r_ix (hu65 hr) (r_nm 0) r_int) r_int) (r_ix (hu65 hr) (r_ix (hu65 hr) (r_nm 1) r_int) r_int)) r_int) r_nil))))
  (s_one (s_ret (r_ix (hu65 hr) (r_nm 2) r_int))))
abbrev st_law_beats : Stmt := topS 60
abbrev N_law_beats : List Str := ["chain", "state", "gifts", "found", "gift"]
theorem sc_law_beats : FnScope N_law_beats ["chain", "state"] (defScope st_law_beats) := ⟨rfl, rfl, rfl, by decide +kernel, rfl, by decide +kernel, by decide +kernel⟩
theorem ok_law_beats (T : Tx fa fn K mg) (D_law_open : DefOk P w K mg base 1 "_law_open" 2 F_law_open) : DefOk P w K mg base 2 "_law_beats" 2 (F_law_beats) := def_ok (k := 1) T (M 1) (M 21) sc_law_beats (fun _ _ _ _ _ _ us hl => match us, hl with | [_, _], _ => rfl) fun fd A outer s H E F hr tk =>
  have S := sc_law_beats
  (s_cons (s_set S.nd (r_if (q_val (r_callD D_law_open tk (hr.mono (by omega)) (ar_law_open) (r_cons (r_nm 0) (r_cons (r_nm 1) r_nil)))) (r_lst (r_cons r_bl (r_cons r_bl r_nil))) (r_lst (r_cons r_bl r_nil))))
  (s_cons (s_set S.nd (r_lst r_nil))
  (s_cons (s_for (passes_of rfl) rfl (i_seq (r_nm 2)) (ws := [4]) (g_name S.nd)
  (s_one (s_set S.nd (r_bin oAdd (r_nm 3) (r_lst (r_cons (r_tup (r_cons (r_nm 4) (r_cons r_bl r_nil))) (r_cons (r_tup (r_cons (r_nm 4) (r_cons r_bl r_nil))) r_nil)))))))
  (s_one (s_ret (r_nm 3))))))
abbrev st_law_begin : Stmt := topS 57
abbrev N_law_begin : List Str := ["chain", "stage"]
theorem sc_law_begin : FnScope N_law_begin ["chain"] (defScope st_law_begin) := ⟨rfl, rfl, rfl, by decide +kernel, rfl, by decide +kernel, by decide +kernel⟩
theorem ok_law_begin (T : Tx fa fn K mg)  : DefOk P w K mg base 1 "_law_begin" 1 (F_law_begin) := def_ok (k := 0) T (M 2) (M 22) sc_law_begin (fun _ _ _ _ _ _ us hl => match us, hl with | [_], _ => rfl) fun fd A outer s H E F hr tk =>
  have S := sc_law_begin
  (s_one (s_ret (r_ty B_tuple (T.fr "tuple" (M 0)) (by rfl) (r_cons (r_lc (own := [("stage", 1)]) rfl S.nd (i_seq (r_nm 0)) (blk_by (N := N_law_begin) (sc := defScope st_law_begin) (by decide +kernel)) (fun _ _ _ _ _ => (g_name S.nd)) (fun _ _ _ _ _ => ts_nil) (fun _ _ _ _ _ => (r_tup (r_cons r_int (r_cons (r_bin oMul (r_tup (r_cons r_bl r_nil)) (r_ix (hu65 hr) (r_nm 1) r_int)) r_nil))))) r_nil))))
abbrev st_law_fault : Stmt := topS 55
abbrev N_law_fault : List Str := ["stage", "row", "standing", "there", "gift", "free", "gives", "due", "held"]
theorem sc_law_fault : FnScope N_law_fault ["stage", "row"] (defScope st_law_fault) := ⟨rfl, rfl, rfl, by decide +kernel, rfl, by decide +kernel, by decide +kernel⟩
theorem ok_law_fault (T : Tx fa fn K mg)  : DefOk P w K mg base 1 "_law_fault" 2 (F_law_fault) := def_ok (k := 0) T (M 3) (M 23) sc_law_fault (fun _ _ _ _ _ _ us hl => match us, hl with | [_, _], _ => rfl) fun fd A outer s H E F hr tk =>
  have S := sc_law_fault
  (s_cons (s_as (ws := [2, 3, 4, 5, 6]) (r_nm 1) (g_tup rfl (gs_cons (g_name S.nd) (gs_cons (g_name S.nd) (gs_cons (g_name S.nd) (gs_cons (g_name S.nd) (gs_cons (g_name S.nd) gs_nil)))))))
  (s_cons (s_set S.nd (r_bin oSub (r_bin oAdd (r_ix (hu65 hr) (r_ix (hu65 hr) (r_ix (hu65 hr) (r_nm 0) r_int) (r_nm 2)) r_int) (r_if (q_val (r_nm 4)) r_int r_int)) (r_if (q_val (r_nm 6)) r_int r_int)))
  (s_cons (s_if (q_bool (w_and (q_val (r_nm 6)) (w_and1 (q_not (q_val (r_nm 5))))))
  (s_one (s_ret r_str))
  s_nil)
  (s_cons (s_set S.nd (r_ix (hu65 hr) (r_ix (hu65 hr) (r_ix (hu65 hr) (r_nm 0) r_int) (r_nm 3)) r_int))
  (s_one (s_ret (r_if (q_cmp (oEq (hu64 hr)) (r_nm 8) (r_nm 7)) r_non (r_if (q_cmp oLt (r_nm 8) (r_nm 7)) r_str r_str))))))))
abbrev st_law_on : Stmt := topS 58
abbrev N_law_on : List Str := ["chain", "state", "gift", "free", "later", "bad", "at", "stage", "free_so", "line", "standing", "words", "there", "gives", "row"]
theorem sc_law_on : FnScope N_law_on ["chain", "state", "gift", "free"] (defScope st_law_on) := ⟨rfl, rfl, rfl, by decide +kernel, rfl, by decide +kernel, by decide +kernel⟩
theorem ok_law_on (T : Tx fa fn K mg) (D_law_fault : DefOk P w K mg base 1 "_law_fault" 2 F_law_fault) : DefOk P w K mg base 2 "_law_on" 4 (F_law_on) := def_ok (k := 1) T (M 4) (M 24) sc_law_on (fun _ _ _ _ _ _ us hl => match us, hl with | [_, _, _, _], _ => rfl) fun fd A outer s H E F hr tk =>
  have S := sc_law_on
  (s_cons (s_par rfl S.nd (by decide) (r_cons (r_new r_nil) (r_cons r_bl r_nil)))
  (s_cons (s_for (passes_of rfl) rfl (i_enum (T.fr "enumerate" (M 1)) (r_nm 0)) (ws := [6, 7]) (g_tup rfl (gs_cons (g_name S.nd) (gs_cons (g_name S.nd) gs_nil)))
  (s_cons (s_set S.nd (r_nm 3))
  (s_cons (s_if (q_cmp oLt (r_bin oAdd (r_nm 6) r_int) (r_bi B_len (T.fr "len" (M 2)) (by rfl) (r_cons (r_nm 0) r_nil)))
  (s_cons (s_set S.nd (r_bin oAdd (r_ix (hu65 hr) (r_ix (hu65 hr) (r_nm 1) (r_bin oAdd (r_nm 6) r_int)) r_int) (r_tup (r_cons (r_ix (hu65 hr) (r_ix (hu65 hr) (r_ix (hu65 hr) (r_ix (hu65 hr) (r_nm 0) (r_bin oAdd (r_nm 6) r_int)) r_int) (r_ix (hu65 hr) (r_ix (hu65 hr) (r_nm 1) (r_bin oAdd (r_nm 6) r_int)) r_int)) r_int) r_nil))))
  (s_one (s_set S.nd (r_ix (hu65 hr) (r_nm 9) r_int))))
  s_nil)
  (s_cons (s_as (ws := [10, 11]) (r_ix (hu65 hr) (r_nm 1) (r_nm 6)) (g_tup rfl (gs_cons (g_name S.nd) (gs_cons (g_name S.nd) gs_nil))))
  (s_cons (s_as (ws := [12, 13]) (r_ix (hu65 hr) (r_ix (hu65 hr) (r_ix (hu65 hr) (r_ix (hu65 hr) (r_nm 7) r_int) (r_nm 10)) r_int) (r_bin oAdd (r_if (q_val (r_nm 2)) r_int r_int) (r_if (q_val (r_nm 8)) r_int r_int))) (g_tup rfl (gs_cons (g_name S.nd) (gs_cons (g_name S.nd) gs_nil))))
  (s_cons (s_set S.nd (r_tup (r_cons (r_nm 10) (r_cons (r_nm 12) (r_cons (r_nm 2) (r_cons (r_nm 8) (r_cons (r_nm 13) r_nil)))))))
  (s_cons (s_set S.nd (r_or (r_nm 5) (r_one (r_cmp oIsNot (r_callD D_law_fault tk (hr.mono (by omega)) (ar_law_fault) (r_cons (r_nm 7) (r_cons (r_nm 14) r_nil))) r_non rfl))))
  (s_cons (s_do (r_app (r_nm 4) (r_tup (r_cons (r_nm 12) (r_cons (r_sl (r_bin oAdd (r_nm 11) (r_tup (r_cons (r_ix (hu65 hr) (r_ix (hu65 hr) (r_ix (hu65 hr) (r_nm 7) r_int) (r_nm 10)) r_int) r_nil))) (o_some r_int) o_none) r_nil)))))
  (s_one (s_set S.nd (r_nm 13)))))))))))
  (s_one (s_ret (r_tup (r_cons (r_ty B_tuple (T.fr "tuple" (M 0)) (by rfl) (r_cons (r_nm 4) r_nil)) (r_cons (r_nm 2) (r_cons (r_nm 5) r_nil))))))))
abbrev st_law_all : Stmt := topS 63
abbrev N_law_all : List Str := ["chain", "begin", "wrong", "known", "line", "at", "gift", "free", "behind", "gives", "bad", "way"]
theorem sc_law_all : FnScope N_law_all ["chain"] (defScope st_law_all) := ⟨rfl, rfl, rfl, by decide +kernel, rfl, by decide +kernel, by decide +kernel⟩
theorem ok_law_all (T : Tx fa fn K mg) (D_law_begin : DefOk P w K mg base 1 "_law_begin" 1 F_law_begin) (D_law_beats : DefOk P w K mg base 2 "_law_beats" 2 F_law_beats) (D_law_on : DefOk P w K mg base 2 "_law_on" 4 F_law_on) : DefOk P w K mg base 3 "_law_all" 1 (F_law_all) := def_ok (k := 2) T (M 5) (M 25) sc_law_all (fun _ _ _ _ _ _ us hl => match us, hl with | [_], _ => rfl) fun fd A outer s H E F hr tk =>
  have S := sc_law_all
  (s_cons (s_par rfl S.nd (by decide) (r_cons (r_callD D_law_begin tk (hr.mono (by omega)) (ar_law_begin) (r_cons (r_nm 0) r_nil)) (r_cons r_non r_nil)))
  (s_cons (s_par3 rfl S.nd (by decide) (by decide) (by decide) (r_cons (r_dct1 (hu65 hr) (r_nm 1) (r_tup r_nil)) (r_cons (r_new (r_cons (r_nm 1) r_nil)) (r_cons r_int r_nil))))
  (s_cons (s_while wh (passes_of rfl) (q_bool (w_and (q_cmp oLt (r_nm 5) (r_bi B_len (T.fr "len" (M 2)) (by rfl) (r_cons (r_nm 4) r_nil))) (w_and1 (q_cmp oLt (r_nm 5) r_int))))
  (s_cons (s_for (passes_of rfl) rfl (i_seq (r_callD D_law_beats tk (hr.mono (by omega)) (ar_law_beats) (r_cons (r_nm 0) (r_cons (r_ix (hu65 hr) (r_nm 4) (r_nm 5)) r_nil)))) (ws := [6, 7]) (g_tup rfl (gs_cons (g_name S.nd) (gs_cons (g_name S.nd) gs_nil)))
  (s_cons (s_as (ws := [8, 9, 10]) (r_callD D_law_on tk (hr.mono (by omega)) (ar_law_on) (r_cons (r_nm 0) (r_cons (r_ix (hu65 hr) (r_nm 4) (r_nm 5)) (r_cons (r_nm 6) (r_cons (r_nm 7) r_nil))))) (g_tup rfl (gs_cons (g_name S.nd) (gs_cons (g_name S.nd) (gs_cons (g_name S.nd) gs_nil)))))
  (s_cons (s_set S.nd (r_bin oAdd (r_ix (hu65 hr) (r_nm 3) (r_ix (hu65 hr) (r_nm 4) (r_nm 5))) (r_tup (r_cons (r_tup (r_cons (r_nm 6) (r_cons (r_nm 7) r_nil))) r_nil))))
  (s_cons (s_if (q_bool (w_and (q_val (r_nm 10)) (w_and1 (q_cmp oIs (r_nm 2) r_non))))
  (s_one (s_set S.nd (r_nm 11)))
  s_nil)
  (s_one (s_if (q_cmp (oNotIn (hu65 hr)) (r_nm 8) (r_nm 3))
  (s_cons (s_sub (hu65 hr) (r_nm 11) (r_nm 3) (r_nm 8))
  (s_one (s_do (r_app (r_nm 4) (r_nm 8)))))
  s_nil))))))
  (s_one (s_set S.nd (r_bin oAdd (r_nm 5) r_int)))))
  (s_one (s_ret (r_tup (r_cons (r_fz 3) (r_cons (r_nm 2) r_nil))))))))
abbrev st_law_under : Stmt := topS 44
abbrev N_law_under : List Str := ["vat", "many", "found", "wide"]
theorem sc_law_under : FnScope N_law_under ["vat", "many"] (defScope st_law_under) := ⟨rfl, rfl, rfl, by decide +kernel, rfl, by decide +kernel, by decide +kernel⟩
theorem ok_law_under (T : Tx fa fn K mg)  : DefOk P w K mg base 1 "_law_under" 2 (F_law_under) := def_ok (k := 0) T (M 6) (M 26) sc_law_under (fun _ _ _ _ _ _ us hl => match us, hl with | [_, _], _ => rfl) fun fd A outer s H E F hr tk =>
  have S := sc_law_under
  (s_cons (s_if (q_cmp oGt (r_ix (hu65 hr) (r_nm 0) r_int) r_int)
  (s_cons (s_set S.nd (r_bin oMod (r_ty B_int (T.fr "int" (M 3)) (by rfl) (r_cons (r_ix (hu65 hr) (r_nm 0) r_int) r_nil)) (r_nm 1)))
  (s_cons (s_sub (hu65 hr) (r_bin oDiv (r_ix (hu65 hr) (r_nm 0) r_int) (r_nm 1)) (r_nm 0) r_int)
  (s_one (s_ret (r_nm 2)))))
  s_nil)
  (s_cons (s_sub (hu65 hr) (r_bin oMod (r_ty B_int (T.fr "int" (M 3)) (by rfl) (r_cons (r_bin oAdd (r_bin oMul (r_ix (hu65 hr) (r_nm 0) r_int) r_int) r_int) r_nil)) r_int) (r_nm 0) r_int)
  (s_cons (s_set S.nd (r_bin oMod (r_ty B_int (T.fr "int" (M 3)) (by rfl) (r_cons (r_bin oMul (r_ix (hu65 hr) (r_nm 0) r_int) (r_bin oAdd (r_bin oDiv (r_ix (hu65 hr) (r_nm 0) r_int) r_int) r_int)) r_nil)) r_int))
  (s_one (s_ret (r_bin oMod (r_ty B_int (T.fr "int" (M 3)) (by rfl) (r_cons (r_bin oDiv (r_nm 3) r_int) r_nil)) (r_nm 1)))))))
abbrev st_law_any_row : Stmt := topS 48
abbrev N_law_any_row : List Str := ["vat", "many", "moves", "kind"]
theorem sc_law_any_row : FnScope N_law_any_row ["vat", "many"] (defScope st_law_any_row) := ⟨rfl, rfl, rfl, by decide +kernel, rfl, by decide +kernel, by decide +kernel⟩
theorem ok_law_any_row (T : Tx fa fn K mg) (D_law_under : DefOk P w K mg base 1 "_law_under" 2 F_law_under) : DefOk P w K mg base 2 "_law_any_row" 2 (F_law_any_row) := def_ok (k := 1) T (M 7) (M 27) sc_law_any_row (fun _ _ _ _ _ _ us hl => match us, hl with | [_, _], _ => rfl) fun fd A outer s H E F hr tk =>
  have S := sc_law_any_row
  (s_cons (s_setLc (own := [("kind", 3)]) rfl S.nd (i_rng1 (T.fr "range" (M 4)) r_int) (blk_by (N := N_law_any_row) (sc := defScope st_law_any_row) (by decide +kernel)) (fun _ _ _ _ _ => (g_name S.nd)) (fun _ _ _ _ _ => ts_nil) (fun _ _ _ _ _ => (r_tup (r_cons (r_callD D_law_under takesN0 (hr.mono (by omega)) (ar_law_under) (r_cons (r_nm 0) (r_cons (r_nm 1) r_nil))) (r_cons (r_cmp (oEq (hu64 hr)) (r_callD D_law_under takesN0 (hr.mono (by omega)) (ar_law_under) (r_cons (r_nm 0) (r_cons r_int r_nil))) r_int rfl) r_nil)))))
  (s_one (s_ret (r_tup (r_cons (r_callD D_law_under tk (hr.mono (by omega)) (ar_law_under) (r_cons (r_nm 0) (r_cons r_int r_nil))) (r_cons (r_cmp (oEq (hu64 hr)) (r_callD D_law_under tk (hr.mono (by omega)) (ar_law_under) (r_cons (r_nm 0) (r_cons r_int r_nil))) r_int rfl) (r_cons (r_ty B_tuple (T.fr "tuple" (M 0)) (by rfl) (r_cons (r_nm 2) r_nil)) r_nil)))))))
abbrev st_law_otherwise : Stmt := topS 49
abbrev N_law_otherwise : List Str := ["vat", "stage", "late", "rows", "at", "kind", "held", "says", "moves", "row", "move"]
theorem sc_law_otherwise : FnScope N_law_otherwise ["vat", "stage"] (defScope st_law_otherwise) := ⟨rfl, rfl, rfl, by decide +kernel, rfl, by decide +kernel, by decide +kernel⟩
theorem ok_law_otherwise (T : Tx fa fn K mg) (D_law_under : DefOk P w K mg base 1 "_law_under" 2 F_law_under) : DefOk P w K mg base 2 "_law_otherwise" 2 (F_law_otherwise) := def_ok (k := 1) T (M 8) (M 28) sc_law_otherwise (fun _ _ _ _ _ _ us hl => match us, hl with | [_, _], _ => rfl) fun fd A outer s H E F hr tk =>
  have S := sc_law_otherwise
  (s_cons (s_as (ws := [2, 3]) (r_nm 1) (g_tup rfl (gs_cons (g_name S.nd) (gs_cons (g_name S.nd) gs_nil))))
  (s_cons (s_par rfl S.nd (by decide) (r_cons (r_callD D_law_under tk (hr.mono (by omega)) (ar_law_under) (r_cons (r_nm 0) (r_cons (r_bi B_len (T.fr "len" (M 2)) (by rfl) (r_cons (r_nm 3) r_nil)) r_nil))) (r_cons (r_callD D_law_under tk (hr.mono (by omega)) (ar_law_under) (r_cons (r_nm 0) (r_cons r_int r_nil))) r_nil)))
  (s_cons (s_as (ws := [6, 7, 8]) (r_ix (hu65 hr) (r_nm 3) (r_nm 4)) (g_tup rfl (gs_cons (g_name S.nd) (gs_cons (g_name S.nd) (gs_cons (g_name S.nd) gs_nil)))))
  (s_cons (s_if (q_cmp (oEq (hu64 hr)) (r_callD D_law_under tk (hr.mono (by omega)) (ar_law_under) (r_cons (r_nm 0) (r_cons r_int r_nil))) r_int)
  (s_one (s_set S.nd (r_tup (r_cons (r_nm 6) (r_cons (r_not (r_nm 7)) (r_cons (r_nm 8) r_nil))))))
  (s_cons (s_set S.nd (r_tup (r_cons (r_callD D_law_under tk (hr.mono (by omega)) (ar_law_under) (r_cons (r_nm 0) (r_cons (r_bi B_len (T.fr "len" (M 2)) (by rfl) (r_cons (r_nm 3) r_nil)) r_nil))) (r_cons (r_cmp (oEq (hu64 hr)) (r_callD D_law_under tk (hr.mono (by omega)) (ar_law_under) (r_cons (r_nm 0) (r_cons r_int r_nil))) r_int rfl) r_nil))))
  (s_one (s_set S.nd (r_tup (r_cons (r_nm 6) (r_cons (r_nm 7) (r_cons (r_bin oAdd (r_bin oAdd (r_sl (r_nm 8) o_none (o_some (r_nm 5))) (r_tup (r_cons (r_nm 10) r_nil))) (r_sl (r_nm 8) (o_some (r_bin oAdd (r_nm 5) r_int)) o_none)) r_nil))))))))
  (s_one (s_ret (r_tup (r_cons (r_nm 2) (r_cons (r_bin oAdd (r_bin oAdd (r_sl (r_nm 3) o_none (o_some (r_nm 4))) (r_tup (r_cons (r_nm 9) r_nil))) (r_sl (r_nm 3) (o_some (r_bin oAdd (r_nm 4) r_int)) o_none)) r_nil)))))))))
abbrev st_law_queue : Stmt := topS 46
abbrev N_law_queue : List Str := ["places", "spare", "late", "rows", "held", "moves"]
theorem sc_law_queue : FnScope N_law_queue ["places", "spare", "late"] (defScope st_law_queue) := ⟨rfl, rfl, rfl, by decide +kernel, rfl, by decide +kernel, by decide +kernel⟩
theorem ok_law_queue (T : Tx fa fn K mg)  : DefOk P w K mg base 1 "_law_queue" 3 (F_law_queue) := def_ok (k := 0) T (M 9) (M 29) sc_law_queue (fun _ _ _ _ _ _ us hl => match us, hl with | [_, _, _], _ => rfl) fun fd A outer s H E F hr tk =>
  have S := sc_law_queue
  (s_cons (s_set S.nd (r_new r_nil))
  (s_cons (s_for (passes_of rfl) rfl (i_rng1 (T.fr "range" (M 4)) (r_bin oAdd (r_nm 0) r_int)) (ws := [4]) (g_name S.nd)
  (s_cons (s_set S.nd (r_lst (r_cons (r_tup (r_cons (r_nm 4) (r_cons r_bl r_nil))) (r_cons (r_tup (r_cons (r_bi (B_max2 rfl) (T.fr "max" (M 5)) (by rfl) (r_cons r_int (r_cons (r_bin oSub (r_nm 4) r_int) r_nil))) (r_cons (r_cmp oGt (r_nm 4) r_int rfl) r_nil))) r_nil))))
  (s_cons (s_set S.nd (r_bin oAdd (r_nm 5) (r_lst (r_cons (r_tup (r_cons (r_bi (B_min2 rfl) (T.fr "min" (M 6)) (by rfl) (r_cons (r_nm 0) (r_cons (r_bin oAdd (r_nm 4) r_int) r_nil))) (r_cons r_bl r_nil))) (r_cons (r_tup (r_cons (r_bi (B_max2 rfl) (T.fr "max" (M 5)) (by rfl) (r_cons r_int (r_cons (r_nm 4) r_nil))) (r_cons (r_cmp oGt (r_nm 4) r_int rfl) r_nil))) r_nil)))))
  (s_one (s_do (r_app (r_nm 3) (r_tup (r_cons (r_nm 4) (r_cons (r_cmp oLe (r_nm 4) (r_bin oSub (r_nm 0) (r_nm 1)) rfl) (r_cons (r_ty B_tuple (T.fr "tuple" (M 0)) (by rfl) (r_cons (r_nm 5) r_nil)) r_nil))))))))))
  (s_one (s_ret (r_tup (r_cons (r_nm 2) (r_cons (r_ty B_tuple (T.fr "tuple" (M 0)) (by rfl) (r_cons (r_nm 3) r_nil)) r_nil)))))))
abbrev st_law_some : Stmt := topS 45
abbrev N_law_some : List Str := ["vat", "things"]
theorem sc_law_some : FnScope N_law_some ["vat", "things"] (defScope st_law_some) := ⟨rfl, rfl, rfl, by decide +kernel, rfl, by decide +kernel, by decide +kernel⟩
theorem ok_law_some (T : Tx fa fn K mg) (D_law_under : DefOk P w K mg base 1 "_law_under" 2 F_law_under) : DefOk P w K mg base 2 "_law_some" 2 (F_law_some) := def_ok (k := 1) T (M 10) (M 30) sc_law_some (fun _ _ _ _ _ _ us hl => match us, hl with | [_, _], _ => rfl) fun fd A outer s H E F hr tk =>
  have S := sc_law_some
  (s_one (s_ret (r_ix (hu65 hr) (r_nm 1) (r_callD D_law_under tk (hr.mono (by omega)) (ar_law_under) (r_cons (r_nm 0) (r_cons (r_bi B_len (T.fr "len" (M 2)) (by rfl) (r_cons (r_nm 1) r_nil)) r_nil))))))
abbrev st_law_stage : Stmt := topS 47
abbrev N_law_stage : List Str := ["vat", "late", "stage", "many", "rows", "standing"]
theorem sc_law_stage : FnScope N_law_stage ["vat"] (defScope st_law_stage) := ⟨rfl, rfl, rfl, by decide +kernel, rfl, by decide +kernel, by decide +kernel⟩
theorem ok_law_stage (T : Tx fa fn K mg) (D_law_some : DefOk P w K mg base 2 "_law_some" 2 F_law_some) (D_law_under : DefOk P w K mg base 1 "_law_under" 2 F_law_under) (D_law_queue : DefOk P w K mg base 1 "_law_queue" 3 F_law_queue) (D_law_otherwise : DefOk P w K mg base 2 "_law_otherwise" 2 F_law_otherwise) (D_law_any_row : DefOk P w K mg base 2 "_law_any_row" 2 F_law_any_row) : DefOk P w K mg base 3 "_law_stage" 1 (F_law_stage) := def_ok (k := 2) T (M 11) (M 31) sc_law_stage (fun _ _ _ _ _ _ us hl => match us, hl with | [_], _ => rfl) fun fd A outer s H E F hr tk =>
  have S := sc_law_stage
  (s_cons (s_set S.nd (r_callD D_law_some tk (hr.mono (by omega)) (ar_law_some) (r_cons (r_nm 0) (r_cons (r_lst (r_cons r_int (r_cons r_int (r_cons r_int (r_cons r_int (r_cons r_int r_nil)))))) r_nil))))
  (s_cons (s_if (q_cmp oGt (r_callD D_law_under tk (hr.mono (by omega)) (ar_law_under) (r_cons (r_nm 0) (r_cons r_int r_nil))) r_int)
  (s_cons (s_set S.nd (r_callD D_law_queue tk (hr.mono (by omega)) (ar_law_queue) (r_cons (r_bin oAdd r_int (r_callD D_law_under tk (hr.mono (by omega)) (ar_law_under) (r_cons (r_nm 0) (r_cons r_int r_nil)))) (r_cons (r_callD D_law_under tk (hr.mono (by omega)) (ar_law_under) (r_cons (r_nm 0) (r_cons r_int r_nil))) (r_cons (r_nm 1) r_nil)))))
  (s_one (s_ret (r_if (q_cmp (oEq (hu64 hr)) (r_callD D_law_under tk (hr.mono (by omega)) (ar_law_under) (r_cons (r_nm 0) (r_cons r_int r_nil))) r_int) (r_nm 2) (r_callD D_law_otherwise tk (hr.mono (by omega)) (ar_law_otherwise) (r_cons (r_nm 0) (r_cons (r_nm 2) r_nil)))))))
  s_nil)
  (s_cons (s_set S.nd (r_bin oAdd r_int (r_callD D_law_under tk (hr.mono (by omega)) (ar_law_under) (r_cons (r_nm 0) (r_cons r_int r_nil)))))
  (s_cons (s_setLc (own := [("standing", 5)]) rfl S.nd (i_rng1 (T.fr "range" (M 4)) (r_nm 3)) (blk_by (N := N_law_stage) (sc := defScope st_law_stage) (by decide +kernel)) (fun _ _ _ _ _ => (g_name S.nd)) (fun _ _ _ _ _ => ts_nil) (fun _ _ _ _ _ => (r_callD D_law_any_row takesN0 (hr.mono (by omega)) (ar_law_any_row) (r_cons (r_nm 0) (r_cons (r_nm 3) r_nil)))))
  (s_one (s_ret (r_tup (r_cons (r_nm 1) (r_cons (r_bin oAdd (r_tup (r_cons (r_bin oAdd (r_tup (r_cons r_int r_nil)) (r_sl (r_ix (hu65 hr) (r_nm 4) r_int) (o_some r_int) o_none)) r_nil)) (r_ty B_tuple (T.fr "tuple" (M 0)) (by rfl) (r_cons (r_sl (r_nm 4) (o_some r_int) o_none) r_nil))) r_nil)))))))))
abbrev st_law_chain : Stmt := topS 50
abbrev N_law_chain : List Str := ["vat", "most", "at"]
theorem sc_law_chain : FnScope N_law_chain ["vat", "most"] (defScope st_law_chain) := ⟨rfl, rfl, rfl, by decide +kernel, rfl, by decide +kernel, by decide +kernel⟩
theorem ok_law_chain (T : Tx fa fn K mg) (D_law_under : DefOk P w K mg base 1 "_law_under" 2 F_law_under) (D_law_stage : DefOk P w K mg base 3 "_law_stage" 1 F_law_stage) : DefOk P w K mg base 4 "_law_chain" 2 (F_law_chain) := def_ok (k := 3) T (M 12) (M 32) sc_law_chain (fun _ _ _ _ _ _ us hl => match us, hl with | [_, _], _ => rfl) fun fd A outer s H E F hr tk =>
  have S := sc_law_chain
  (s_one (s_ret (r_ty B_tuple (T.fr "tuple" (M 0)) (by rfl) (r_cons (r_lc (own := [("at", 2)]) rfl S.nd (i_rng1 (T.fr "range" (M 4)) (r_bin oAdd r_int (r_callD D_law_under tk (hr.mono (by omega)) (ar_law_under) (r_cons (r_nm 0) (r_cons (r_nm 1) r_nil))))) (blk_by (N := N_law_chain) (sc := defScope st_law_chain) (by decide +kernel)) (fun _ _ _ _ _ => (g_name S.nd)) (fun _ _ _ _ _ => ts_nil) (fun _ _ _ _ _ => (r_callD D_law_stage takesN0 (hr.mono (by omega)) (ar_law_stage) (r_cons (r_nm 0) r_nil)))) r_nil))))
abbrev st_law_word : Stmt := topS 51
abbrev N_law_word : List Str := ["chain", "said", "at", "beat", "there"]
theorem sc_law_word : FnScope N_law_word ["chain", "said", "at", "beat"] (defScope st_law_word) := ⟨rfl, rfl, rfl, by decide +kernel, rfl, by decide +kernel, by decide +kernel⟩
theorem ok_law_word (T : Tx fa fn K mg)  : DefOk P w K mg base 1 "_law_word" 4 (F_law_word) := def_ok (k := 0) T (M 13) (M 33) sc_law_word (fun _ _ _ _ _ _ us hl => match us, hl with | [_, _, _, _], _ => rfl) fun fd A outer s H E F hr tk =>
  have S := sc_law_word
  (s_cons (s_set S.nd (r_bin oSub (r_nm 3) (r_ix (hu65 hr) (r_ix (hu65 hr) (r_nm 0) (r_nm 2)) r_int)))
  (s_one (s_ret (r_if (q_cmp oGe (r_nm 4) r_int) (r_ix (hu65 hr) (r_ix (hu65 hr) (r_nm 1) (r_nm 4)) (r_nm 2)) r_bl))))
abbrev st_law_gone : Stmt := topS 52
abbrev N_law_gone : List Str := ["chain", "beats", "now", "said", "found", "number", "gift", "free", "rows", "later", "at", "stage", "free_so", "there", "gives", "holds"]
theorem sc_law_gone : FnScope N_law_gone ["chain", "beats"] (defScope st_law_gone) := ⟨rfl, rfl, rfl, by decide +kernel, rfl, by decide +kernel, by decide +kernel⟩
theorem ok_law_gone (T : Tx fa fn K mg) (D_law_word : DefOk P w K mg base 1 "_law_word" 4 F_law_word) : DefOk P w K mg base 2 "_law_gone" 2 (F_law_gone) := def_ok (k := 1) T (M 14) (M 34) sc_law_gone (fun _ _ _ _ _ _ us hl => match us, hl with | [_, _], _ => rfl) fun fd A outer s H E F hr tk =>
  have S := sc_law_gone
  (s_cons (s_parA (is := [2, 3, 4]) rfl (r_cons (r_bin oMul (r_lst (r_cons r_int r_nil)) (r_bi B_len (T.fr "len" (M 2)) (by rfl) (r_cons (r_nm 0) r_nil))) (r_cons (r_lst r_nil) (r_cons (r_new r_nil) r_nil))) (gv_cons S.nd (gv_cons S.nd (gv_cons S.nd gv_nil))))
  (s_cons (s_for (passes_of rfl) rfl (i_enum (T.fr "enumerate" (M 1)) (r_nm 1)) (ws := [5, 6, 7]) (g_tup rfl (gs_cons (g_name S.nd) (gs_cons (g_tup rfl (gs_cons (g_name S.nd) (gs_cons (g_name S.nd) gs_nil))) gs_nil)))
  (s_cons (s_set S.nd (r_bin oAdd (r_nm 3) (r_lst (r_cons (r_lc (own := [("at", 10), ("stage", 11)]) rfl S.nd (i_enum (T.fr "enumerate" (M 1)) (r_nm 0)) (blk_by (N := N_law_gone) (sc := defScope st_law_gone) (by decide +kernel)) (fun _ _ _ _ _ => (g_tup rfl (gs_cons (g_name S.nd) (gs_cons (g_name S.nd) gs_nil)))) (fun _ _ _ _ _ => ts_nil) (fun _ _ _ _ _ => (r_ix (hu65 hr) (r_ix (hu65 hr) (r_ix (hu65 hr) (r_nm 11) r_int) (r_ix (hu65 hr) (r_nm 2) (r_nm 10))) r_int))) r_nil))))
  (s_cons (s_par rfl S.nd (by decide) (r_cons (r_new r_nil) (r_cons (r_new r_nil) r_nil)))
  (s_cons (s_for (passes_of rfl) rfl (i_enum (T.fr "enumerate" (M 1)) (r_nm 0)) (ws := [10, 11]) (g_tup rfl (gs_cons (g_name S.nd) (gs_cons (g_name S.nd) gs_nil)))
  (s_cons (s_set S.nd (r_if (q_cmp oLt (r_bin oAdd (r_nm 10) r_int) (r_bi B_len (T.fr "len" (M 2)) (by rfl) (r_cons (r_nm 0) r_nil))) (r_callD D_law_word tk (hr.mono (by omega)) (ar_law_word) (r_cons (r_nm 0) (r_cons (r_nm 3) (r_cons (r_bin oAdd (r_nm 10) r_int) (r_cons (r_nm 5) r_nil))))) (r_nm 7)))
  (s_cons (s_as (ws := [13, 14]) (r_ix (hu65 hr) (r_ix (hu65 hr) (r_ix (hu65 hr) (r_ix (hu65 hr) (r_nm 11) r_int) (r_ix (hu65 hr) (r_nm 2) (r_nm 10))) r_int) (r_bin oAdd (r_if (q_val (r_nm 6)) r_int r_int) (r_if (q_val (r_nm 12)) r_int r_int))) (g_tup rfl (gs_cons (g_name S.nd) (gs_cons (g_name S.nd) gs_nil))))
  (s_cons (s_do (r_app (r_nm 8) (r_tup (r_cons (r_ix (hu65 hr) (r_nm 2) (r_nm 10)) (r_cons (r_nm 13) (r_cons (r_nm 6) (r_cons (r_nm 12) (r_cons (r_nm 14) r_nil))))))))
  (s_cons (s_do (r_app (r_nm 9) (r_nm 13)))
  (s_one (s_set S.nd (r_nm 14))))))))
  (s_cons (s_set S.nd (r_fz 9))
  (s_cons (s_setLc (own := [("at", 10), ("stage", 11)]) rfl S.nd (i_enum (T.fr "enumerate" (M 1)) (r_nm 0)) (blk_by (N := N_law_gone) (sc := defScope st_law_gone) (by decide +kernel)) (fun _ _ _ _ _ => (g_tup rfl (gs_cons (g_name S.nd) (gs_cons (g_name S.nd) gs_nil)))) (fun _ _ _ _ _ => ts_nil) (fun _ _ _ _ _ => (r_ix (hu65 hr) (r_ix (hu65 hr) (r_ix (hu65 hr) (r_nm 11) r_int) (r_ix (hu65 hr) (r_nm 2) (r_nm 10))) r_int)))
  (s_one (s_do (r_app (r_nm 4) (r_tup (r_cons (r_ix (hu65 hr) (r_nm 3) (r_neg r_int)) (r_cons (r_fz 8) (r_cons (r_bi (B_sum rfl) (T.fr "sum" (M 7)) (by rfl) (r_cons (r_nm 15) r_nil)) r_nil)))))))))))))
  (s_one (s_ret (r_fz 4)))))
abbrev st_law_can_give : Stmt := topS 53
abbrev N_law_can_give : List Str := ["chain", "beats", "gone", "row"]
theorem sc_law_can_give : FnScope N_law_can_give ["chain", "beats"] (defScope st_law_can_give) := ⟨rfl, rfl, rfl, by decide +kernel, rfl, by decide +kernel, by decide +kernel⟩
theorem ok_law_can_give (T : Tx fa fn K mg) (D_law_gone : DefOk P w K mg base 2 "_law_gone" 2 F_law_gone) (D_law_word : DefOk P w K mg base 1 "_law_word" 4 F_law_word) : DefOk P w K mg base 3 "_law_can_give" 2 (F_law_can_give) := def_ok (k := 2) T (M 15) (M 35) sc_law_can_give (fun _ _ _ _ _ _ us hl => match us, hl with | [_, _], _ => rfl) fun fd A outer s H E F hr tk =>
  have S := sc_law_can_give
  (s_cons (s_set S.nd (r_callD D_law_gone tk (hr.mono (by omega)) (ar_law_gone) (r_cons (r_nm 0) (r_cons (r_bin oAdd (r_nm 1) (r_tup (r_cons (r_tup (r_cons r_bl (r_cons r_bl r_nil))) r_nil))) r_nil))))
  (s_one (s_ret (r_callD D_law_word tk (hr.mono (by omega)) (ar_law_word) (r_cons (r_nm 0) (r_cons (r_lc (own := [("row", 3)]) rfl S.nd (i_seq (r_nm 2)) (blk_by (N := N_law_can_give) (sc := defScope st_law_can_give) (by decide +kernel)) (fun _ _ _ _ _ => (g_name S.nd)) (fun _ _ _ _ _ => ts_nil) (fun _ _ _ _ _ => (r_ix (hu65 hr) (r_nm 3) r_int))) (r_cons r_int (r_cons (r_bi B_len (T.fr "len" (M 2)) (by rfl) (r_cons (r_nm 1) r_nil)) r_nil))))))))
abbrev st_law_course : Stmt := topS 54
abbrev N_law_course : List Str := ["vat", "chain", "most", "found", "turn", "gift"]
theorem sc_law_course : FnScope N_law_course ["vat", "chain", "most"] (defScope st_law_course) := ⟨rfl, rfl, rfl, by decide +kernel, rfl, by decide +kernel, by decide +kernel⟩
theorem ok_law_course (T : Tx fa fn K mg) (D_law_under : DefOk P w K mg base 1 "_law_under" 2 F_law_under) (D_law_can_give : DefOk P w K mg base 3 "_law_can_give" 2 F_law_can_give) : DefOk P w K mg base 4 "_law_course" 3 (F_law_course) := def_ok (k := 3) T (M 16) (M 36) sc_law_course (fun _ _ _ _ _ _ us hl => match us, hl with | [_, _, _], _ => rfl) fun fd A outer s H E F hr tk =>
  have S := sc_law_course
  (s_cons (s_set S.nd (r_tup r_nil))
  (s_cons (s_for (passes_of rfl) rfl (i_rng1 (T.fr "range" (M 4)) (r_callD D_law_under tk (hr.mono (by omega)) (ar_law_under) (r_cons (r_nm 0) (r_cons (r_bin oAdd (r_nm 2) r_int) r_nil)))) (ws := [4]) (g_name S.nd)
  (s_cons (s_set S.nd (r_and (r_callD D_law_can_give tk (hr.mono (by omega)) (ar_law_can_give) (r_cons (r_nm 1) (r_cons (r_nm 3) r_nil))) (r_one (r_cmp oGt (r_callD D_law_under tk (hr.mono (by omega)) (ar_law_under) (r_cons (r_nm 0) (r_cons r_int r_nil))) r_int rfl))))
  (s_one (s_set S.nd (r_bin oAdd (r_nm 3) (r_tup (r_cons (r_tup (r_cons (r_nm 5) (r_cons (r_cmp (oEq (hu64 hr)) (r_callD D_law_under tk (hr.mono (by omega)) (ar_law_under) (r_cons (r_nm 0) (r_cons r_int r_nil))) r_int rfl) r_nil))) r_nil)))))))
  (s_one (s_ret (r_nm 3)))))
abbrev st_law_first_fault : Stmt := topS 56
abbrev N_law_first_fault : List Str := ["chain", "beats", "number", "words", "rows", "held", "at", "row"]
theorem sc_law_first_fault : FnScope N_law_first_fault ["chain", "beats"] (defScope st_law_first_fault) := ⟨rfl, rfl, rfl, by decide +kernel, rfl, by decide +kernel, by decide +kernel⟩
theorem ok_law_first_fault (T : Tx fa fn K mg) (D_law_gone : DefOk P w K mg base 2 "_law_gone" 2 F_law_gone) (D_law_fault : DefOk P w K mg base 1 "_law_fault" 2 F_law_fault) : DefOk P w K mg base 3 "_law_first_fault" 2 (F_law_first_fault) := def_ok (k := 2) T (M 17) (M 37) sc_law_first_fault (fun _ _ _ _ _ _ us hl => match us, hl with | [_, _], _ => rfl) fun fd A outer s H E F hr tk =>
  have S := sc_law_first_fault
  (s_cons (s_for (passes_of rfl) rfl (i_enum (T.fr "enumerate" (M 1)) (r_callD D_law_gone tk (hr.mono (by omega)) (ar_law_gone) (r_cons (r_nm 0) (r_cons (r_nm 1) r_nil)))) (ws := [2, 3, 4, 5]) (g_tup rfl (gs_cons (g_name S.nd) (gs_cons (g_tup rfl (gs_cons (g_name S.nd) (gs_cons (g_name S.nd) (gs_cons (g_name S.nd) gs_nil)))) gs_nil)))
  (s_one (s_for (passes_of rfl) rfl (i_enum (T.fr "enumerate" (M 1)) (r_nm 4)) (ws := [6, 7]) (g_tup rfl (gs_cons (g_name S.nd) (gs_cons (g_name S.nd) gs_nil)))
  (s_one (s_if (q_cmp oIsNot (r_callD D_law_fault tk (hr.mono (by omega)) (ar_law_fault) (r_cons (r_ix (hu65 hr) (r_nm 0) (r_nm 6)) (r_cons (r_nm 7) r_nil))) r_non)
  (s_one (s_ret (r_tup (r_cons (r_nm 2) (r_cons (r_nm 6) (r_cons (r_callD D_law_fault tk (hr.mono (by omega)) (ar_law_fault) (r_cons (r_ix (hu65 hr) (r_nm 0) (r_nm 6)) (r_cons (r_nm 7) r_nil))) r_nil))))))
  s_nil)))))
  (s_one (s_ret r_non)))
abbrev st_law_good_stage : Stmt := topS 64
abbrev N_law_good_stage : List Str := ["vat", "late", "places"]
theorem sc_law_good_stage : FnScope N_law_good_stage ["vat"] (defScope st_law_good_stage) := ⟨rfl, rfl, rfl, by decide +kernel, rfl, by decide +kernel, by decide +kernel⟩
theorem ok_law_good_stage (T : Tx fa fn K mg) (D_law_under : DefOk P w K mg base 1 "_law_under" 2 F_law_under) (D_law_queue : DefOk P w K mg base 1 "_law_queue" 3 F_law_queue) : DefOk P w K mg base 2 "_law_good_stage" 1 (F_law_good_stage) := def_ok (k := 1) T (M 18) (M 38) sc_law_good_stage (fun _ _ _ _ _ _ us hl => match us, hl with | [_], _ => rfl) fun fd A outer s H E F hr tk =>
  have S := sc_law_good_stage
  (s_cons (s_par rfl S.nd (by decide) (r_cons (r_callD D_law_under tk (hr.mono (by omega)) (ar_law_under) (r_cons (r_nm 0) (r_cons r_int r_nil))) (r_cons (r_bin oAdd r_int (r_callD D_law_under tk (hr.mono (by omega)) (ar_law_under) (r_cons (r_nm 0) (r_cons r_int r_nil)))) r_nil)))
  (s_one (s_ret (r_callD D_law_queue tk (hr.mono (by omega)) (ar_law_queue) (r_cons (r_nm 2) (r_cons (r_bin oAdd (r_bi (B_min2 rfl) (T.fr "min" (M 6)) (by rfl) (r_cons (r_nm 2) (r_cons (r_nm 1) r_nil))) r_int) (r_cons (r_nm 1) r_nil)))))))
abbrev st_law_vat : Stmt := topS 43
abbrev N_law_vat : List Str := ["script", "k", "cell"]
theorem sc_law_vat : FnScope N_law_vat ["script", "k"] (defScope st_law_vat) := ⟨rfl, rfl, rfl, by decide +kernel, rfl, by decide +kernel, by decide +kernel⟩
theorem ok_law_vat (T : Tx fa fn K mg)  : DefOk P w K mg base 1 "_law_vat" 2 (F_law_vat) := def_ok (k := 0) T (M 19) (M 39) sc_law_vat (fun _ _ _ _ _ _ us hl => match us, hl with | [_, _], _ => rfl) fun fd A outer s H E F hr tk =>
  have S := sc_law_vat
  (s_cons (s_set S.nd (r_bin oAdd (r_bin oMul r_int (r_nm 1)) r_int))
  (s_cons (s_if (q_cmp oLt (r_nm 1) (r_bi B_len (T.fr "len" (M 2)) (by rfl) (r_cons (r_nm 0) r_nil)))
  (s_one (s_set S.nd (r_bi B_abs (T.fr "abs" (M 8)) (by rfl) (r_cons (r_ty B_int (T.fr "int" (M 3)) (by rfl) (r_cons (r_ix (hu65 hr) (r_nm 0) (r_nm 1)) r_nil)) r_nil))))
  s_nil)
  (s_one (s_ret (r_new (r_cons (r_if (q_cmp oGe (r_nm 2) (r_bin oPow r_int r_int)) (r_nm 2) r_int) (r_cons (r_bin oAdd (r_bin oMod (r_ty B_int (T.fr "int" (M 3)) (by rfl) (r_cons (r_bin oAdd (r_bin oAdd (r_bin oMul (r_nm 2) r_int) (r_bin oMul r_int (r_nm 1))) r_int) r_nil)) r_int) r_int) r_nil)))))))
abbrev st_p_words_of : Stmt := topS 23
abbrev N_p_words_of : List Str := ["stage", "state"]
theorem sc_p_words_of : FnScope N_p_words_of ["stage", "state"] (defScope st_p_words_of) := ⟨rfl, rfl, rfl, by decide +kernel, rfl, by decide +kernel, by decide +kernel⟩
theorem ok_p_words_of (T : Tx fa fn K mg)  : DefOk P w K mg base 1 "words_of" 2 (F_p_words_of) := def_ok (k := 0) T (M 20) (M 40) sc_p_words_of (fun _ _ _ _ _ _ us hl => match us, hl with | [_, _], _ => rfl) fun fd A outer s H E F hr tk =>
  have S := sc_p_words_of
  (s_one (s_ret (r_bin oAdd (r_ix (hu65 hr) (r_nm 1) r_int) (r_tup (r_cons (r_ix (hu65 hr) (r_ix (hu65 hr) (r_ix (hu65 hr) (r_nm 0) r_int) (r_ix (hu65 hr) (r_nm 1) r_int)) r_int) r_nil)))))
abbrev st_p_reached : Stmt := topS 24
abbrev N_p_reached : List Str := ["stage", "state"]
theorem sc_p_reached : FnScope N_p_reached ["stage", "state"] (defScope st_p_reached) := ⟨rfl, rfl, rfl, by decide +kernel, rfl, by decide +kernel, by decide +kernel⟩
theorem ok_p_reached (T : Tx fa fn K mg) (D_p_words_of : DefOk P w K mg base 1 "words_of" 2 F_p_words_of) : DefOk P w K mg base 2 "reached" 2 (F_p_reached) := def_ok (k := 1) T (M 21) (M 41) sc_p_reached (fun _ _ _ _ _ _ us hl => match us, hl with | [_, _], _ => rfl) fun fd A outer s H E F hr tk =>
  have S := sc_p_reached
  (s_one (s_ret (r_ix (hu65 hr) (r_callD D_p_words_of tk (hr.mono (by omega)) (ar_p_words_of) (r_cons (r_nm 0) (r_cons (r_nm 1) r_nil))) r_int)))
abbrev st_p_beats_of : Stmt := topS 27
abbrev N_p_beats_of : List Str := ["stage", "state", "found"]
theorem sc_p_beats_of : FnScope N_p_beats_of ["stage", "state"] (defScope st_p_beats_of) := ⟨rfl, rfl, rfl, by decide +kernel, rfl, by decide +kernel, by decide +kernel⟩
theorem ok_p_beats_of (T : Tx fa fn K mg) (D_p_reached : DefOk P w K mg base 2 "reached" 2 F_p_reached) : DefOk P w K mg base 3 "beats_of" 2 (F_p_beats_of) := def_ok (k := 2) T (M 22) (M 42) sc_p_beats_of (fun _ _ _ _ _ _ us hl => match us, hl with | [_, _], _ => rfl) fun fd A outer s H E F hr tk =>
  have S := sc_p_beats_of
  (s_cons (s_set S.nd (r_lst (r_cons (r_tup (r_cons r_bl (r_cons r_bl r_nil))) (r_cons (r_tup (r_cons r_bl (r_cons r_bl r_nil))) r_nil))))
  (s_one (s_ret (r_if (q_val (r_callD D_p_reached tk (hr.mono (by omega)) (ar_p_reached) (r_cons (r_nm 0) (r_cons (r_nm 1) r_nil)))) (r_bin oAdd (r_nm 2) (r_lst (r_cons (r_tup (r_cons r_bl (r_cons r_bl r_nil))) (r_cons (r_tup (r_cons r_bl (r_cons r_bl r_nil))) r_nil)))) (r_nm 2)))))
abbrev st_p_frees_of : Stmt := topS 33
abbrev N_p_frees_of : List Str := ["chain", "state", "free", "at"]
theorem sc_p_frees_of : FnScope N_p_frees_of ["chain", "state", "free"] (defScope st_p_frees_of) := ⟨rfl, rfl, rfl, by decide +kernel, rfl, by decide +kernel, by decide +kernel⟩
theorem ok_p_frees_of (T : Tx fa fn K mg) (D_p_reached : DefOk P w K mg base 2 "reached" 2 F_p_reached) : DefOk P w K mg base 3 "frees_of" 3 (F_p_frees_of) := def_ok (k := 2) T (M 23) (M 43) sc_p_frees_of (fun _ _ _ _ _ _ us hl => match us, hl with | [_, _, _], _ => rfl) fun fd A outer s H E F hr tk =>
  have S := sc_p_frees_of
  (s_one (s_ret (r_bin oAdd (r_lc (own := [("at", 3)]) rfl S.nd (i_rng2 (T.fr "range" (M 4)) r_int (r_bi B_len (T.fr "len" (M 2)) (by rfl) (r_cons (r_nm 0) r_nil))) (blk_by (N := N_p_frees_of) (sc := defScope st_p_frees_of) (by decide +kernel)) (fun _ _ _ _ _ => (g_name S.nd)) (fun _ _ _ _ _ => ts_nil) (fun _ _ _ _ _ => (r_callD D_p_reached takesN0 (hr.mono (by omega)) (ar_p_reached) (r_cons (r_ix (hu65 hr) (r_nm 0) (r_nm 3)) (r_cons (r_ix (hu65 hr) (r_nm 1) (r_nm 3)) r_nil))))) (r_lst (r_cons (r_nm 2) r_nil)))))
abbrev st_p_step : Stmt := topS 25
abbrev N_p_step : List Str := ["stage", "state", "gift", "free", "standing", "gives"]
theorem sc_p_step : FnScope N_p_step ["stage", "state", "gift", "free"] (defScope st_p_step) := ⟨rfl, rfl, rfl, by decide +kernel, rfl, by decide +kernel, by decide +kernel⟩
theorem ok_p_step (T : Tx fa fn K mg) (D_p_words_of : DefOk P w K mg base 1 "words_of" 2 F_p_words_of) : DefOk P w K mg base 2 "step" 4 (F_p_step) := def_ok (k := 1) T (M 24) (M 44) sc_p_step (fun _ _ _ _ _ _ us hl => match us, hl with | [_, _, _, _], _ => rfl) fun fd A outer s H E F hr tk =>
  have S := sc_p_step
  (s_cons (s_as (ws := [4, 5]) (r_ix (hu65 hr) (r_ix (hu65 hr) (r_ix (hu65 hr) (r_ix (hu65 hr) (r_nm 0) r_int) (r_ix (hu65 hr) (r_nm 1) r_int)) r_int) (r_bin oAdd (r_bin oMul r_int (r_ty B_int (T.fr "int" (M 3)) (by rfl) (r_cons (r_nm 2) r_nil))) (r_ty B_int (T.fr "int" (M 3)) (by rfl) (r_cons (r_nm 3) r_nil)))) (g_tup rfl (gs_cons (g_name S.nd) (gs_cons (g_name S.nd) gs_nil))))
  (s_one (s_ret (r_tup (r_cons (r_tup (r_cons (r_nm 4) (r_cons (r_sl (r_callD D_p_words_of tk (hr.mono (by omega)) (ar_p_words_of) (r_cons (r_nm 0) (r_cons (r_nm 1) r_nil))) (o_some r_int) o_none) r_nil))) (r_cons (r_nm 5) r_nil))))))
abbrev st_p_wrong_word : Stmt := topS 26
abbrev N_p_wrong_word : List Str := ["stage", "state", "gift", "free", "behind", "gives", "gap"]
theorem sc_p_wrong_word : FnScope N_p_wrong_word ["stage", "state", "gift", "free"] (defScope st_p_wrong_word) := ⟨rfl, rfl, rfl, by decide +kernel, rfl, by decide +kernel, by decide +kernel⟩
theorem ok_p_wrong_word (T : Tx fa fn K mg) (D_p_step : DefOk P w K mg base 2 "step" 4 F_p_step) : DefOk P w K mg base 3 "wrong_word" 4 (F_p_wrong_word) := def_ok (k := 2) T (M 25) (M 45) sc_p_wrong_word (fun _ _ _ _ _ _ us hl => match us, hl with | [_, _, _, _], _ => rfl) fun fd A outer s H E F hr tk =>
  have S := sc_p_wrong_word
  (s_cons (s_as (ws := [4, 5]) (r_callD D_p_step tk (hr.mono (by omega)) (ar_p_step) (r_cons (r_nm 0) (r_cons (r_nm 1) (r_cons (r_nm 2) (r_cons (r_nm 3) r_nil))))) (g_tup rfl (gs_cons (g_name S.nd) (gs_cons (g_name S.nd) gs_nil))))
  (s_cons (s_if (q_bool (w_and (q_val (r_nm 5)) (w_and1 (q_not (q_val (r_nm 3))))))
  (s_one (s_ret r_str))
  s_nil)
  (s_cons (s_set S.nd (r_bin oAdd (r_bin oSub (r_bin oSub (r_ix (hu65 hr) (r_ix (hu65 hr) (r_ix (hu65 hr) (r_nm 0) r_int) (r_ix (hu65 hr) (r_nm 4) r_int)) r_int) (r_ix (hu65 hr) (r_ix (hu65 hr) (r_ix (hu65 hr) (r_nm 0) r_int) (r_ix (hu65 hr) (r_nm 1) r_int)) r_int)) (r_ty B_int (T.fr "int" (M 3)) (by rfl) (r_cons (r_nm 2) r_nil))) (r_ty B_int (T.fr "int" (M 3)) (by rfl) (r_cons (r_nm 5) r_nil))))
  (s_one (s_ret (r_if (q_cmp (oEq (hu64 hr)) (r_nm 6) r_int) r_non (r_if (q_cmp oLt (r_nm 6) r_int) r_str r_str)))))))
abbrev st_p_chain_step : Stmt := topS 34
abbrev N_p_chain_step : List Str := ["chain", "state", "gift", "free", "found", "wrong", "at", "free_so", "word", "behind"]
theorem sc_p_chain_step : FnScope N_p_chain_step ["chain", "state", "gift", "free"] (defScope st_p_chain_step) := ⟨rfl, rfl, rfl, by decide +kernel, rfl, by decide +kernel, by decide +kernel⟩
theorem ok_p_chain_step (T : Tx fa fn K mg) (D_p_frees_of : DefOk P w K mg base 3 "frees_of" 3 F_p_frees_of) (D_p_wrong_word : DefOk P w K mg base 3 "wrong_word" 4 F_p_wrong_word) (D_p_step : DefOk P w K mg base 2 "step" 4 F_p_step) : DefOk P w K mg base 4 "chain_step" 4 (F_p_chain_step) := def_ok (k := 3) T (M 26) (M 46) sc_p_chain_step (fun _ _ _ _ _ _ us hl => match us, hl with | [_, _, _, _], _ => rfl) fun fd A outer s H E F hr tk =>
  have S := sc_p_chain_step
  (s_cons (s_as (ws := [4, 5]) (r_tup (r_cons (r_tup r_nil) (r_cons r_non r_nil))) (g_tup rfl (gs_cons (g_name S.nd) (gs_cons (g_name S.nd) gs_nil))))
  (s_cons (s_for (passes_of rfl) rfl (i_enum (T.fr "enumerate" (M 1)) (r_callD D_p_frees_of tk (hr.mono (by omega)) (ar_p_frees_of) (r_cons (r_nm 0) (r_cons (r_nm 1) (r_cons (r_nm 3) r_nil))))) (ws := [6, 7]) (g_tup rfl (gs_cons (g_name S.nd) (gs_cons (g_name S.nd) gs_nil)))
  (s_cons (s_set S.nd (r_callD D_p_wrong_word tk (hr.mono (by omega)) (ar_p_wrong_word) (r_cons (r_ix (hu65 hr) (r_nm 0) (r_nm 6)) (r_cons (r_ix (hu65 hr) (r_nm 1) (r_nm 6)) (r_cons (r_nm 2) (r_cons (r_nm 7) r_nil))))))
  (s_cons (s_set S.nd (r_if (q_bool (w_and (q_cmp oIs (r_nm 5) r_non) (w_and1 (q_cmp oIsNot (r_nm 8) r_non)))) (r_tup (r_cons (r_nm 6) (r_cons (r_nm 8) r_nil))) (r_nm 5)))
  (s_cons (s_as (ws := [9, 2]) (r_callD D_p_step tk (hr.mono (by omega)) (ar_p_step) (r_cons (r_ix (hu65 hr) (r_nm 0) (r_nm 6)) (r_cons (r_ix (hu65 hr) (r_nm 1) (r_nm 6)) (r_cons (r_nm 2) (r_cons (r_nm 7) r_nil))))) (g_tup rfl (gs_cons (g_name S.nd) (gs_cons (g_name S.nd) gs_nil))))
  (s_one (s_set S.nd (r_bin oAdd (r_nm 4) (r_tup (r_cons (r_nm 9) r_nil)))))))))
  (s_one (s_ret (r_tup (r_cons (r_nm 4) (r_cons (r_nm 2) (r_cons (r_nm 5) r_nil))))))))
abbrev st_p_first_state : Stmt := topS 22
abbrev N_p_first_state : List Str := ["stage"]
theorem sc_p_first_state : FnScope N_p_first_state ["stage"] (defScope st_p_first_state) := ⟨rfl, rfl, rfl, by decide +kernel, rfl, by decide +kernel, by decide +kernel⟩
theorem ok_p_first_state (T : Tx fa fn K mg)  : DefOk P w K mg base 1 "first_state" 1 (F_p_first_state) := def_ok (k := 0) T (M 27) (M 47) sc_p_first_state (fun _ _ _ _ _ _ us hl => match us, hl with | [_], _ => rfl) fun fd A outer s H E F hr tk =>
  have S := sc_p_first_state
  (s_one (s_ret (r_tup (r_cons r_int (r_cons (r_bin oMul (r_tup (r_cons r_bl r_nil)) (r_ix (hu65 hr) (r_nm 0) r_int)) r_nil)))))
abbrev st_p_first_of : Stmt := topS 32
abbrev N_p_first_of : List Str := ["chain", "stage"]
theorem sc_p_first_of : FnScope N_p_first_of ["chain"] (defScope st_p_first_of) := ⟨rfl, rfl, rfl, by decide +kernel, rfl, by decide +kernel, by decide +kernel⟩
theorem ok_p_first_of (T : Tx fa fn K mg) (D_p_first_state : DefOk P w K mg base 1 "first_state" 1 F_p_first_state) : DefOk P w K mg base 2 "first_of" 1 (F_p_first_of) := def_ok (k := 1) T (M 28) (M 48) sc_p_first_of (fun _ _ _ _ _ _ us hl => match us, hl with | [_], _ => rfl) fun fd A outer s H E F hr tk =>
  have S := sc_p_first_of
  (s_one (s_ret (r_ty B_tuple (T.fr "tuple" (M 0)) (by rfl) (r_cons (r_lc (own := [("stage", 1)]) rfl S.nd (i_seq (r_nm 0)) (blk_by (N := N_p_first_of) (sc := defScope st_p_first_of) (by decide +kernel)) (fun _ _ _ _ _ => (g_name S.nd)) (fun _ _ _ _ _ => ts_nil) (fun _ _ _ _ _ => (r_callD D_p_first_state takesN0 (hr.mono (by omega)) (ar_p_first_state) (r_cons (r_nm 1) r_nil)))) r_nil))))
abbrev st_p_all_ways : Stmt := topS 35
abbrev N_p_all_ways : List Str := ["chain", "found", "line", "at", "state", "gift", "free", "behind"]
theorem sc_p_all_ways : FnScope N_p_all_ways ["chain"] (defScope st_p_all_ways) := ⟨rfl, rfl, rfl, by decide +kernel, rfl, by decide +kernel, by decide +kernel⟩
theorem ok_p_all_ways (T : Tx fa fn K mg) (D_p_first_of : DefOk P w K mg base 2 "first_of" 1 F_p_first_of) (D_p_beats_of : DefOk P w K mg base 3 "beats_of" 2 F_p_beats_of) (D_p_chain_step : DefOk P w K mg base 4 "chain_step" 4 F_p_chain_step) : DefOk P w K mg base 5 "all_ways" 1 (F_p_all_ways) := def_ok (k := 4) T (M 29) (M 49) sc_p_all_ways (fun _ _ _ _ _ _ us hl => match us, hl with | [_], _ => rfl) fun fd A outer s H E F hr tk =>
  have S := sc_p_all_ways
  (s_cons (s_par3 rfl S.nd (by decide) (by decide) (by decide) (r_cons (r_dct1 (hu65 hr) (r_callD D_p_first_of tk (hr.mono (by omega)) (ar_p_first_of) (r_cons (r_nm 0) r_nil)) (r_tup r_nil)) (r_cons (r_new (r_cons (r_callD D_p_first_of tk (hr.mono (by omega)) (ar_p_first_of) (r_cons (r_nm 0) r_nil)) r_nil)) (r_cons r_int r_nil))))
  (s_cons (s_while wh (passes_of rfl) (q_cmp oLt (r_nm 3) (r_bi B_len (T.fr "len" (M 2)) (by rfl) (r_cons (r_nm 2) r_nil)))
  (s_cons (s_par rfl S.nd (by decide) (r_cons (r_ix (hu65 hr) (r_nm 2) (r_nm 3)) (r_cons (r_bin oAdd (r_nm 3) r_int) r_nil)))
  (s_cons (s_for (passes_of rfl) rfl (i_seq (r_callD D_p_beats_of tk (hr.mono (by omega)) (ar_p_beats_of) (r_cons (r_ix (hu65 hr) (r_nm 0) r_int) (r_cons (r_ix (hu65 hr) (r_nm 4) r_int) r_nil)))) (ws := [5, 6]) (g_tup rfl (gs_cons (g_name S.nd) (gs_cons (g_name S.nd) gs_nil)))
  (s_cons (s_set S.nd (r_ix (hu65 hr) (r_callD D_p_chain_step tk (hr.mono (by omega)) (ar_p_chain_step) (r_cons (r_nm 0) (r_cons (r_nm 4) (r_cons (r_nm 5) (r_cons (r_nm 6) r_nil))))) r_int))
  (s_one (s_if (q_cmp (oNotIn (hu65 hr)) (r_nm 7) (r_nm 1))
  (s_cons (s_sub (hu65 hr) (r_bin oAdd (r_ix (hu65 hr) (r_nm 1) (r_nm 4)) (r_tup (r_cons (r_tup (r_cons (r_nm 5) (r_cons (r_nm 6) r_nil))) r_nil))) (r_nm 1) (r_nm 7))
  (s_one (s_do (r_app (r_nm 2) (r_nm 7)))))
  s_nil))))
  (s_one (s_if (q_cmp oGt (r_bi B_len (T.fr "len" (M 2)) (by rfl) (r_cons (r_nm 1) r_nil)) (r_gintE rfl (T.it "MOST_STATES" 3000 (M 9))))
  (s_one s_bad)
  s_nil)))))
  (s_one (s_ret (r_fz 1)))))
abbrev st_p_is_whole : Stmt := topS 17
abbrev N_p_is_whole : List Str := ["value", "low", "high"]
theorem sc_p_is_whole : FnScope N_p_is_whole ["value", "low", "high"] (defScope st_p_is_whole) := ⟨rfl, rfl, rfl, by decide +kernel, rfl, by decide +kernel, by decide +kernel⟩
theorem ok_p_is_whole (T : Tx fa fn K mg)  : DefOk P w K mg base 1 "is_whole" 3 (F_p_is_whole) := def_ok (k := 0) T (M 30) (M 50) sc_p_is_whole (fun _ _ _ _ _ _ us hl => match us, hl with | [_, _, _], _ => rfl) fun fd A outer s H E F hr tk =>
  have S := sc_p_is_whole
  (s_one (s_ret (r_and (r_isi kit_int (by rfl) (T.fr "isinstance" (M 10)) (T.fr "int" (M 3)) (r_nm 0)) (r_and (r_not (r_isi kit_bool (by rfl) (T.fr "isinstance" (M 10)) (T.fr "bool" (M 11)) (r_nm 0))) (r_one (r_chain oLe oLe (r_nm 1) (r_nm 0) (r_nm 2)))))))
abbrev st_p_is_move : Stmt := topS 18
abbrev N_p_is_move : List Str := ["value", "standings"]
theorem sc_p_is_move : FnScope N_p_is_move ["value", "standings"] (defScope st_p_is_move) := ⟨rfl, rfl, rfl, by decide +kernel, rfl, by decide +kernel, by decide +kernel⟩
theorem ok_p_is_move (T : Tx fa fn K mg) (D_p_is_whole : DefOk P w K mg base 1 "is_whole" 3 F_p_is_whole) : DefOk P w K mg base 2 "is_move" 2 (F_p_is_move) := def_ok (k := 1) T (M 31) (M 51) sc_p_is_move (fun _ _ _ _ _ _ us hl => match us, hl with | [_, _], _ => rfl) fun fd A outer s H E F hr tk =>
  have S := sc_p_is_move
  (s_cons (s_if (q_bool (w_or (q_not (q_val (r_isi kit_tuple (by rfl) (T.fr "isinstance" (M 10)) (T.fr "tuple" (M 0)) (r_nm 0)))) (w_or (q_cmp (oNe (hu64 hr)) (r_bi B_len (T.fr "len" (M 2)) (by rfl) (r_cons (r_nm 0) r_nil)) r_int) (w_or1 (q_not (q_val (r_callD D_p_is_whole tk (hr.mono (by omega)) (ar_p_is_whole) (r_cons (r_ix (hu65 hr) (r_nm 0) r_int) (r_cons r_int (r_cons (r_bin oSub (r_nm 1) r_int) r_nil))))))))))
  (s_one (s_ret r_bl))
  s_nil)
  (s_one (s_ret (r_isi kit_bool (by rfl) (T.fr "isinstance" (M 10)) (T.fr "bool" (M 11)) (r_ix (hu65 hr) (r_nm 0) r_int)))))
abbrev st_p_is_row : Stmt := topS 19
abbrev N_p_is_row : List Str := ["value", "standings", "move"]
theorem sc_p_is_row : FnScope N_p_is_row ["value", "standings"] (defScope st_p_is_row) := ⟨rfl, rfl, rfl, by decide +kernel, rfl, by decide +kernel, by decide +kernel⟩
theorem ok_p_is_row (T : Tx fa fn K mg) (D_p_is_whole : DefOk P w K mg base 1 "is_whole" 3 F_p_is_whole) (D_p_is_move : DefOk P w K mg base 2 "is_move" 2 F_p_is_move) : DefOk P w K mg base 3 "is_row" 2 (F_p_is_row) := def_ok (k := 2) T (M 32) (M 52) sc_p_is_row (fun _ _ _ _ _ _ us hl => match us, hl with | [_, _], _ => rfl) fun fd A outer s H E F hr tk =>
  have S := sc_p_is_row
  (s_cons (s_if (q_bool (w_or (q_not (q_val (r_isi kit_tuple (by rfl) (T.fr "isinstance" (M 10)) (T.fr "tuple" (M 0)) (r_nm 0)))) (w_or (q_cmp (oNe (hu64 hr)) (r_bi B_len (T.fr "len" (M 2)) (by rfl) (r_cons (r_nm 0) r_nil)) r_int) (w_or1 (q_not (q_val (r_callD D_p_is_whole tk (hr.mono (by omega)) (ar_p_is_whole) (r_cons (r_ix (hu65 hr) (r_nm 0) r_int) (r_cons r_int (r_cons (r_gintE rfl (T.it "MOST_HELD" 6 (M 12))) r_nil))))))))))
  (s_one (s_ret r_bl))
  s_nil)
  (s_cons (s_if (q_bool (w_or (q_not (q_val (r_isi kit_bool (by rfl) (T.fr "isinstance" (M 10)) (T.fr "bool" (M 11)) (r_ix (hu65 hr) (r_nm 0) r_int)))) (w_or (q_not (q_val (r_isi kit_tuple (by rfl) (T.fr "isinstance" (M 10)) (T.fr "tuple" (M 0)) (r_ix (hu65 hr) (r_nm 0) r_int)))) (w_or1 (q_cmp (oNe (hu64 hr)) (r_bi B_len (T.fr "len" (M 2)) (by rfl) (r_cons (r_ix (hu65 hr) (r_nm 0) r_int) r_nil)) r_int)))))
  (s_one (s_ret r_bl))
  s_nil)
  (s_one (s_ret (r_cmp (oEq (hu64 hr)) (r_lc (own := [("move", 2)]) rfl S.nd (i_seq (r_ix (hu65 hr) (r_nm 0) r_int)) (blk_by (N := N_p_is_row) (sc := defScope st_p_is_row) (by decide +kernel)) (fun _ _ _ _ _ => (g_name S.nd)) (fun _ _ _ _ _ => (ts_one (q_not (q_val (r_callD D_p_is_move takesN0 (hr.mono (by omega)) (ar_p_is_move) (r_cons (r_nm 2) (r_cons (r_nm 1) r_nil))))))) (fun _ _ _ _ _ => (r_nm 2))) (r_lst r_nil) rfl)))))
abbrev st_p_has_stage : Stmt := topS 20
abbrev N_p_has_stage : List Str := ["value", "row"]
theorem sc_p_has_stage : FnScope N_p_has_stage ["value"] (defScope st_p_has_stage) := ⟨rfl, rfl, rfl, by decide +kernel, rfl, by decide +kernel, by decide +kernel⟩
theorem ok_p_has_stage (T : Tx fa fn K mg) (D_p_is_whole : DefOk P w K mg base 1 "is_whole" 3 F_p_is_whole) (D_p_is_row : DefOk P w K mg base 3 "is_row" 2 F_p_is_row) : DefOk P w K mg base 4 "has_stage" 1 (F_p_has_stage) := def_ok (k := 3) T (M 33) (M 53) sc_p_has_stage (fun _ _ _ _ _ _ us hl => match us, hl with | [_], _ => rfl) fun fd A outer s H E F hr tk =>
  have S := sc_p_has_stage
  (s_cons (s_if (q_bool (w_or (q_not (q_val (r_isi kit_tuple (by rfl) (T.fr "isinstance" (M 10)) (T.fr "tuple" (M 0)) (r_nm 0)))) (w_or (q_cmp (oNe (hu64 hr)) (r_bi B_len (T.fr "len" (M 2)) (by rfl) (r_cons (r_nm 0) r_nil)) r_int) (w_or1 (q_not (q_val (r_callD D_p_is_whole tk (hr.mono (by omega)) (ar_p_is_whole) (r_cons (r_ix (hu65 hr) (r_nm 0) r_int) (r_cons r_int (r_cons r_int r_nil))))))))))
  (s_one (s_ret r_bl))
  s_nil)
  (s_cons (s_if (q_bool (w_or (q_not (q_val (r_isi kit_tuple (by rfl) (T.fr "isinstance" (M 10)) (T.fr "tuple" (M 0)) (r_ix (hu65 hr) (r_nm 0) r_int)))) (w_or1 (q_not (q_chain oLe oLe r_int (r_bi B_len (T.fr "len" (M 2)) (by rfl) (r_cons (r_ix (hu65 hr) (r_nm 0) r_int) r_nil)) (r_gintE rfl (T.it "MOST_ROWS" 6 (M 13))))))))
  (s_one (s_ret r_bl))
  s_nil)
  (s_cons (s_if (q_cmp (oNe (hu64 hr)) (r_lc (own := [("row", 1)]) rfl S.nd (i_seq (r_ix (hu65 hr) (r_nm 0) r_int)) (blk_by (N := N_p_has_stage) (sc := defScope st_p_has_stage) (by decide +kernel)) (fun _ _ _ _ _ => (g_name S.nd)) (fun _ _ _ _ _ => (ts_one (q_not (q_val (r_callD D_p_is_row takesN0 (hr.mono (by omega)) (ar_p_is_row) (r_cons (r_nm 1) (r_cons (r_bi B_len (T.fr "len" (M 2)) (by rfl) (r_cons (r_ix (hu65 hr) (r_nm 0) r_int) r_nil)) r_nil))))))) (fun _ _ _ _ _ => (r_nm 1))) (r_lst r_nil))
  (s_one (s_ret r_bl))
  s_nil)
  (s_one (s_ret (r_cmp (oEq (hu64 hr)) (r_ix (hu65 hr) (r_ix (hu65 hr) (r_ix (hu65 hr) (r_nm 0) r_int) r_int) r_int) r_int rfl))))))
abbrev st_p_has_chain : Stmt := topS 30
abbrev N_p_has_chain : List Str := ["value", "stage"]
theorem sc_p_has_chain : FnScope N_p_has_chain ["value"] (defScope st_p_has_chain) := ⟨rfl, rfl, rfl, by decide +kernel, rfl, by decide +kernel, by decide +kernel⟩
theorem ok_p_has_chain (T : Tx fa fn K mg) (D_p_has_stage : DefOk P w K mg base 4 "has_stage" 1 F_p_has_stage) : DefOk P w K mg base 5 "has_chain" 1 (F_p_has_chain) := def_ok (k := 4) T (M 34) (M 54) sc_p_has_chain (fun _ _ _ _ _ _ us hl => match us, hl with | [_], _ => rfl) fun fd A outer s H E F hr tk =>
  have S := sc_p_has_chain
  (s_cons (s_if (q_bool (w_or (q_not (q_val (r_isi kit_tuple (by rfl) (T.fr "isinstance" (M 10)) (T.fr "tuple" (M 0)) (r_nm 0)))) (w_or1 (q_not (q_chain oLe oLe r_int (r_bi B_len (T.fr "len" (M 2)) (by rfl) (r_cons (r_nm 0) r_nil)) r_int)))))
  (s_one (s_ret r_bl))
  s_nil)
  (s_one (s_ret (r_cmp (oEq (hu64 hr)) (r_lc (own := [("stage", 1)]) rfl S.nd (i_seq (r_nm 0)) (blk_by (N := N_p_has_chain) (sc := defScope st_p_has_chain) (by decide +kernel)) (fun _ _ _ _ _ => (g_name S.nd)) (fun _ _ _ _ _ => (ts_one (q_not (q_val (r_callD D_p_has_stage takesN0 (hr.mono (by omega)) (ar_p_has_stage) (r_cons (r_nm 1) r_nil)))))) (fun _ _ _ _ _ => (r_nm 1))) (r_lst r_nil) rfl))))
abbrev st_p_need_chain : Stmt := topS 31
abbrev N_p_need_chain : List Str := ["chain"]
theorem sc_p_need_chain : FnScope N_p_need_chain ["chain"] (defScope st_p_need_chain) := ⟨rfl, rfl, rfl, by decide +kernel, rfl, by decide +kernel, by decide +kernel⟩
theorem ok_p_need_chain (T : Tx fa fn K mg) (D_p_has_chain : DefOk P w K mg base 5 "has_chain" 1 F_p_has_chain) : DefOk P w K mg base 6 "need_chain" 1 (F_p_need_chain) := def_ok (k := 5) T (M 35) (M 55) sc_p_need_chain (fun _ _ _ _ _ _ us hl => match us, hl with | [_], _ => rfl) fun fd A outer s H E F hr tk =>
  have S := sc_p_need_chain
  (s_one (s_if (q_not (q_val (r_callD D_p_has_chain tk (hr.mono (by omega)) (ar_p_has_chain) (r_cons (r_nm 0) r_nil))))
  (s_one (s_raiseE rfl tk (T.ft _ (M 14)) (T.gl "InvalidChain" (M 15))))
  s_nil))
abbrev st_p_count_states : Stmt := topS 36
abbrev N_p_count_states : List Str := ["chain"]
theorem sc_p_count_states : FnScope N_p_count_states ["chain"] (defScope st_p_count_states) := ⟨rfl, rfl, rfl, by decide +kernel, rfl, by decide +kernel, by decide +kernel⟩
theorem ok_p_count_states (T : Tx fa fn K mg) (D_p_need_chain : DefOk P w K mg base 6 "need_chain" 1 F_p_need_chain) (D_p_all_ways : DefOk P w K mg base 5 "all_ways" 1 F_p_all_ways) : DefOk P w K mg base 7 "count_states" 1 (F_p_count_states) := def_ok (k := 6) T (M 36) (M 19) sc_p_count_states (fun _ _ _ _ _ _ us hl => match us, hl with | [_], _ => rfl) fun fd A outer s H E F hr tk =>
  have S := sc_p_count_states
  (s_cons (s_do (r_callD D_p_need_chain tk (hr.mono (by omega)) (ar_p_need_chain) (r_cons (r_nm 0) r_nil)))
  (s_one (s_ret (r_bi B_len (T.fr "len" (M 2)) (by rfl) (r_cons (r_callD D_p_all_ways tk (hr.mono (by omega)) (ar_p_all_ways) (r_cons (r_nm 0) r_nil)) r_nil)))))
abbrev st_p_need_stage : Stmt := topS 21
abbrev N_p_need_stage : List Str := ["stage"]
theorem sc_p_need_stage : FnScope N_p_need_stage ["stage"] (defScope st_p_need_stage) := ⟨rfl, rfl, rfl, by decide +kernel, rfl, by decide +kernel, by decide +kernel⟩
theorem ok_p_need_stage (T : Tx fa fn K mg) (D_p_has_stage : DefOk P w K mg base 4 "has_stage" 1 F_p_has_stage) : DefOk P w K mg base 5 "need_stage" 1 (F_p_need_stage) := def_ok (k := 4) T (M 37) (M 56) sc_p_need_stage (fun _ _ _ _ _ _ us hl => match us, hl with | [_], _ => rfl) fun fd A outer s H E F hr tk =>
  have S := sc_p_need_stage
  (s_one (s_if (q_not (q_val (r_callD D_p_has_stage tk (hr.mono (by omega)) (ar_p_has_stage) (r_cons (r_nm 0) r_nil))))
  (s_one (s_raiseE rfl tk (T.ft _ (M 16)) (T.gl "InvalidStage" (M 17))))
  s_nil))
abbrev st_p_found_wrong : Stmt := topS 39
abbrev N_p_found_wrong : List Str := ["stage", "states", "courses", "at", "gift", "free", "behind"]
theorem sc_p_found_wrong : FnScope N_p_found_wrong ["stage"] (defScope st_p_found_wrong) := ⟨rfl, rfl, rfl, by decide +kernel, rfl, by decide +kernel, by decide +kernel⟩
theorem ok_p_found_wrong (T : Tx fa fn K mg) (D_p_first_state : DefOk P w K mg base 1 "first_state" 1 F_p_first_state) (D_p_beats_of : DefOk P w K mg base 3 "beats_of" 2 F_p_beats_of) (D_p_wrong_word : DefOk P w K mg base 3 "wrong_word" 4 F_p_wrong_word) (D_p_step : DefOk P w K mg base 2 "step" 4 F_p_step) : DefOk P w K mg base 4 "found_wrong" 1 (F_p_found_wrong) := def_ok (k := 3) T (M 38) (M 57) sc_p_found_wrong (fun _ _ _ _ _ _ us hl => match us, hl with | [_], _ => rfl) fun fd A outer s H E F hr tk =>
  have S := sc_p_found_wrong
  (s_cons (s_par3 rfl S.nd (by decide) (by decide) (by decide) (r_cons (r_lst (r_cons (r_callD D_p_first_state tk (hr.mono (by omega)) (ar_p_first_state) (r_cons (r_nm 0) r_nil)) r_nil)) (r_cons (r_lst (r_cons (r_tup r_nil) r_nil)) (r_cons r_int r_nil))))
  (s_cons (s_while wh (passes_of rfl) (q_cmp oLt (r_nm 3) (r_bi B_len (T.fr "len" (M 2)) (by rfl) (r_cons (r_nm 1) r_nil)))
  (s_cons (s_for (passes_of rfl) rfl (i_seq (r_callD D_p_beats_of tk (hr.mono (by omega)) (ar_p_beats_of) (r_cons (r_nm 0) (r_cons (r_ix (hu65 hr) (r_nm 1) (r_nm 3)) r_nil)))) (ws := [4, 5]) (g_tup rfl (gs_cons (g_name S.nd) (gs_cons (g_name S.nd) gs_nil)))
  (s_cons (s_if (q_cmp oIsNot (r_callD D_p_wrong_word tk (hr.mono (by omega)) (ar_p_wrong_word) (r_cons (r_nm 0) (r_cons (r_ix (hu65 hr) (r_nm 1) (r_nm 3)) (r_cons (r_nm 4) (r_cons (r_nm 5) r_nil))))) r_non)
  (s_one (s_ret (r_tup (r_cons (r_nm 1) (r_cons (r_bin oAdd (r_ix (hu65 hr) (r_nm 2) (r_nm 3)) (r_tup (r_cons (r_tup (r_cons (r_nm 4) (r_cons (r_nm 5) r_nil))) r_nil))) r_nil)))))
  s_nil)
  (s_cons (s_set S.nd (r_ix (hu65 hr) (r_callD D_p_step tk (hr.mono (by omega)) (ar_p_step) (r_cons (r_nm 0) (r_cons (r_ix (hu65 hr) (r_nm 1) (r_nm 3)) (r_cons (r_nm 4) (r_cons (r_nm 5) r_nil))))) r_int))
  (s_one (s_if (q_cmp (oNotIn (hu65 hr)) (r_nm 6) (r_nm 1))
  (s_one (s_par rfl S.nd (by decide) (r_cons (r_bin oAdd (r_nm 1) (r_lst (r_cons (r_nm 6) r_nil))) (r_cons (r_bin oAdd (r_nm 2) (r_lst (r_cons (r_bin oAdd (r_ix (hu65 hr) (r_nm 2) (r_nm 3)) (r_tup (r_cons (r_tup (r_cons (r_nm 4) (r_cons (r_nm 5) r_nil))) r_nil))) r_nil))) r_nil))))
  s_nil)))))
  (s_one (s_set S.nd (r_bin oAdd (r_nm 3) r_int)))))
  (s_one (s_ret (r_tup (r_cons (r_nm 1) (r_cons r_non r_nil)))))))
abbrev st_p_never_wrong : Stmt := topS 40
abbrev N_p_never_wrong : List Str := ["stage"]
theorem sc_p_never_wrong : FnScope N_p_never_wrong ["stage"] (defScope st_p_never_wrong) := ⟨rfl, rfl, rfl, by decide +kernel, rfl, by decide +kernel, by decide +kernel⟩
theorem ok_p_never_wrong (T : Tx fa fn K mg) (D_p_found_wrong : DefOk P w K mg base 4 "found_wrong" 1 F_p_found_wrong) : DefOk P w K mg base 5 "never_wrong" 1 (F_p_never_wrong) := def_ok (k := 4) T (M 39) (M 58) sc_p_never_wrong (fun _ _ _ _ _ _ us hl => match us, hl with | [_], _ => rfl) fun fd A outer s H E F hr tk =>
  have S := sc_p_never_wrong
  (s_one (s_ret (r_cmp oIs (r_ix (hu65 hr) (r_callD D_p_found_wrong tk (hr.mono (by omega)) (ar_p_found_wrong) (r_cons (r_nm 0) r_nil)) r_int) r_non rfl)))
abbrev st_p_is_good : Stmt := topS 41
abbrev N_p_is_good : List Str := ["stage"]
theorem sc_p_is_good : FnScope N_p_is_good ["stage"] (defScope st_p_is_good) := ⟨rfl, rfl, rfl, by decide +kernel, rfl, by decide +kernel, by decide +kernel⟩
theorem ok_p_is_good (T : Tx fa fn K mg) (D_p_need_stage : DefOk P w K mg base 5 "need_stage" 1 F_p_need_stage) (D_p_never_wrong : DefOk P w K mg base 5 "never_wrong" 1 F_p_never_wrong) : DefOk P w K mg base 6 "is_good" 1 (F_p_is_good) := def_ok (k := 5) T (M 40) (M 59) sc_p_is_good (fun _ _ _ _ _ _ us hl => match us, hl with | [_], _ => rfl) fun fd A outer s H E F hr tk =>
  have S := sc_p_is_good
  (s_cons (s_do (r_callD D_p_need_stage tk (hr.mono (by omega)) (ar_p_need_stage) (r_cons (r_nm 0) r_nil)))
  (s_one (s_ret (r_callD D_p_never_wrong tk (hr.mono (by omega)) (ar_p_never_wrong) (r_cons (r_nm 0) r_nil)))))
abbrev st_p_wrong_chain : Stmt := topS 37
abbrev N_p_wrong_chain : List Str := ["chain", "ways", "state", "gift", "free"]
theorem sc_p_wrong_chain : FnScope N_p_wrong_chain ["chain"] (defScope st_p_wrong_chain) := ⟨rfl, rfl, rfl, by decide +kernel, rfl, by decide +kernel, by decide +kernel⟩
theorem ok_p_wrong_chain (T : Tx fa fn K mg) (D_p_need_chain : DefOk P w K mg base 6 "need_chain" 1 F_p_need_chain) (D_p_all_ways : DefOk P w K mg base 5 "all_ways" 1 F_p_all_ways) (D_p_beats_of : DefOk P w K mg base 3 "beats_of" 2 F_p_beats_of) (D_p_chain_step : DefOk P w K mg base 4 "chain_step" 4 F_p_chain_step) : DefOk P w K mg base 7 "wrong_chain" 1 (F_p_wrong_chain) := def_ok (k := 6) T (M 41) (M 18) sc_p_wrong_chain (fun _ _ _ _ _ _ us hl => match us, hl with | [_], _ => rfl) fun fd A outer s H E F hr tk =>
  have S := sc_p_wrong_chain
  (s_cons (s_do (r_callD D_p_need_chain tk (hr.mono (by omega)) (ar_p_need_chain) (r_cons (r_nm 0) r_nil)))
  (s_cons (s_set S.nd (r_callD D_p_all_ways tk (hr.mono (by omega)) (ar_p_all_ways) (r_cons (r_nm 0) r_nil)))
  (s_cons (s_for (passes_of rfl) rfl (i_seq (r_nm 1)) (ws := [2]) (g_name S.nd)
  (s_one (s_for (passes_of rfl) rfl (i_seq (r_callD D_p_beats_of tk (hr.mono (by omega)) (ar_p_beats_of) (r_cons (r_ix (hu65 hr) (r_nm 0) r_int) (r_cons (r_ix (hu65 hr) (r_nm 2) r_int) r_nil)))) (ws := [3, 4]) (g_tup rfl (gs_cons (g_name S.nd) (gs_cons (g_name S.nd) gs_nil)))
  (s_one (s_if (q_cmp oIsNot (r_ix (hu65 hr) (r_callD D_p_chain_step tk (hr.mono (by omega)) (ar_p_chain_step) (r_cons (r_nm 0) (r_cons (r_nm 2) (r_cons (r_nm 3) (r_cons (r_nm 4) r_nil))))) r_int) r_non)
  (s_one (s_ret (r_bin oAdd (r_ix (hu65 hr) (r_nm 1) (r_nm 2)) (r_tup (r_cons (r_tup (r_cons (r_nm 3) (r_cons (r_nm 4) r_nil))) r_nil)))))
  s_nil)))))
  (s_one (s_ret r_non)))))
abbrev st_p_law : Stmt := topS 65
abbrev N_p_law : List Str := ["script", "k", "vat", "turn", "chain", "known", "wrong", "course", "gone", "came", "one", "two", "late", "slow", "at", "stage", "beat", "row", "call"]
theorem sc_p_law : FnScope N_p_law ["script"] (defScope st_p_law) := ⟨rfl, rfl, rfl, by decide +kernel, rfl, by decide +kernel, by decide +kernel⟩
theorem ok_p_law (T : Tx fa fn K mg) (D_law_vat : DefOk P w K mg base 1 "_law_vat" 2 F_law_vat) (D_law_chain : DefOk P w K mg base 4 "_law_chain" 2 F_law_chain) (D_law_all : DefOk P w K mg base 3 "_law_all" 1 F_law_all) (D_p_count_states : DefOk P w K mg base 7 "count_states" 1 F_p_count_states) (D_p_wrong_chain : DefOk P w K mg base 7 "wrong_chain" 1 F_p_wrong_chain) (D_law_first_fault : DefOk P w K mg base 3 "_law_first_fault" 2 F_law_first_fault) (D_law_under : DefOk P w K mg base 1 "_law_under" 2 F_law_under) (D_law_good_stage : DefOk P w K mg base 2 "_law_good_stage" 1 F_law_good_stage) (D_p_is_good : DefOk P w K mg base 6 "is_good" 1 F_p_is_good) (D_law_course : DefOk P w K mg base 4 "_law_course" 3 F_law_course) (D_law_gone : DefOk P w K mg base 2 "_law_gone" 2 F_law_gone) (D_law_queue : DefOk P w K mg base 1 "_law_queue" 3 F_law_queue) (LE : ErrD P w K mg base cs) (TB : LamX.TabB base mg (tCd K "law") (tP K "law")) {fd : FuncData} (F : FunD K "law" "law" (defArgs st_p_law) (defBody st_p_law) (defScope st_p_law) [] [] (He.ga K "law") fd) : FnOk P w K mg base (L2N.CX P w) 11 (He.ga K "law") fd ["script"] (spF ⟨P, w, K, mg⟩ 1 (F_p_law K)) := law_ok (k := 10) F sc_p_law fun A outer s H E hr tk =>
  have S := sc_p_law
  (s_cons (s_for (passes_of rfl) rfl (i_rng1 (T.fr "range" (M 4)) (r_bi (B_max2 rfl) (T.fr "max" (M 5)) (by rfl) (r_cons r_int (r_cons (r_bi (B_min2 rfl) (T.fr "min" (M 6)) (by rfl) (r_cons r_int (r_cons (r_bi B_len (T.fr "len" (M 2)) (by rfl) (r_cons (r_nm 0) r_nil)) r_nil))) r_nil)))) (ws := [1]) (g_name S.nd)
  (s_cons (s_set S.nd (r_callD D_law_vat tk (hr.mono (by omega)) (ar_law_vat) (r_cons (r_nm 0) (r_cons (r_nm 1) r_nil))))
  (s_cons (s_for (passes_of rfl) rfl (i_rng1 (T.fr "range" (M 4)) r_int) (ws := [3]) (g_name S.nd)
  (s_cons (s_set S.nd (r_callD D_law_chain tk (hr.mono (by omega)) (ar_law_chain) (r_cons (r_nm 2) (r_cons r_int r_nil))))
  (s_cons (s_as (ws := [5, 6]) (r_callD D_law_all tk (hr.mono (by omega)) (ar_law_all) (r_cons (r_nm 4) r_nil)) (g_tup rfl (gs_cons (g_name S.nd) (gs_cons (g_name S.nd) gs_nil))))
  (s_one (s_if (q_cmp oLt (r_bi B_len (T.fr "len" (M 2)) (by rfl) (r_cons (r_nm 5) r_nil)) r_int)
  (s_cons (s_if (q_bool (w_or (q_cmp (oNe (hu64 hr)) (r_callD D_p_count_states tk (hr.mono (by omega)) (ar_p_count_states) (r_cons (r_nm 4) r_nil)) (r_bi B_len (T.fr "len" (M 2)) (by rfl) (r_cons (r_nm 5) r_nil))) (w_or1 (q_cmp (oNe (hu64 hr)) (r_callD D_p_wrong_chain tk (hr.mono (by omega)) (ar_p_wrong_chain) (r_cons (r_nm 4) r_nil)) (r_nm 6)))))
  (s_one (s_ret r_bl))
  s_nil)
  (s_one (s_if (q_bool (w_and (q_cmp oIsNot (r_nm 6) r_non) (w_and1 (q_cmp (oNe (hu64 hr)) (r_ix (hu65 hr) (r_callD D_law_first_fault tk (hr.mono (by omega)) (ar_law_first_fault) (r_cons (r_nm 4) (r_cons (r_nm 6) r_nil))) r_int) (r_bin oSub (r_bi B_len (T.fr "len" (M 2)) (by rfl) (r_cons (r_nm 6) r_nil)) r_int)))))
  (s_one (s_ret r_bl))
  s_nil)))
  s_nil)))))
  (s_cons (s_set S.nd (r_ty B_tuple (T.fr "tuple" (M 0)) (by rfl) (r_cons (r_lc (own := [("at", 14)]) rfl S.nd (i_rng1 (T.fr "range" (M 4)) (r_bin oAdd r_int (r_callD D_law_under tk (hr.mono (by omega)) (ar_law_under) (r_cons (r_nm 2) (r_cons r_int r_nil))))) (blk_by (N := N_p_law) (sc := defScope st_p_law) (by decide +kernel)) (fun _ _ _ _ _ => (g_name S.nd)) (fun _ _ _ _ _ => ts_nil) (fun _ _ _ _ _ => (r_callD D_law_good_stage takesN0 (hr.mono (by omega)) (ar_law_good_stage) (r_cons (r_nm 2) r_nil)))) r_nil)))
  (s_cons (s_if (q_bool (w_or (q_cmp (oNe (hu64 hr)) (r_lc (own := [("stage", 15)]) rfl S.nd (i_seq (r_nm 4)) (blk_by (N := N_p_law) (sc := defScope st_p_law) (by decide +kernel)) (fun _ _ _ _ _ => (g_name S.nd)) (fun _ _ _ _ _ => (ts_one (q_not (q_val (r_callD D_p_is_good takesN0 (hr.mono (by omega)) (ar_p_is_good) (r_cons (r_nm 15) r_nil)))))) (fun _ _ _ _ _ => (r_nm 15))) (r_lst r_nil)) (w_or1 (q_cmp oIsNot (r_callD D_p_wrong_chain tk (hr.mono (by omega)) (ar_p_wrong_chain) (r_cons (r_sl (r_nm 4) o_none (o_some r_int)) r_nil)) r_non))))
  (s_one (s_ret r_bl))
  s_nil)
  (s_cons (s_set S.nd (r_callD D_law_course tk (hr.mono (by omega)) (ar_law_course) (r_cons (r_nm 2) (r_cons (r_nm 4) (r_cons r_int r_nil)))))
  (s_cons (s_set S.nd (r_callD D_law_gone tk (hr.mono (by omega)) (ar_law_gone) (r_cons (r_nm 4) (r_cons (r_nm 7) r_nil))))
  (s_cons (s_set S.nd (r_bi B_len (T.fr "len" (M 2)) (by rfl) (r_cons (r_lc (own := [("beat", 16)]) rfl S.nd (i_seq (r_nm 7)) (blk_by (N := N_p_law) (sc := defScope st_p_law) (by decide +kernel)) (fun _ _ _ _ _ => (g_name S.nd)) (fun _ _ _ _ _ => (ts_one (q_val (r_ix (hu65 hr) (r_nm 16) r_int)))) (fun _ _ _ _ _ => (r_nm 16))) r_nil)))
  (s_cons (s_set S.nd (r_bin oSub (r_nm 9) (r_bi B_len (T.fr "len" (M 2)) (by rfl) (r_cons (r_lc (own := [("row", 17)]) rfl S.nd (i_seq (r_nm 8)) (blk_by (N := N_p_law) (sc := defScope st_p_law) (by decide +kernel)) (fun _ _ _ _ _ => (g_name S.nd)) (fun _ _ _ _ _ => (ts_one (q_val (r_ix (hu65 hr) (r_ix (hu65 hr) (r_ix (hu65 hr) (r_nm 17) r_int) (r_neg r_int)) r_int)))) (fun _ _ _ _ _ => (r_nm 17))) r_nil))))
  (s_cons (s_if (q_bool (w_or (q_cmp oIsNot (r_callD D_law_first_fault tk (hr.mono (by omega)) (ar_law_first_fault) (r_cons (r_nm 4) (r_cons (r_nm 7) r_nil))) r_non) (w_or1 (q_bool (w_and (q_cmp (oNe (hu64 hr)) (r_nm 7) (r_tup r_nil)) (w_and1 (q_cmp (oNe (hu64 hr)) (r_nm 9) (r_ix (hu65 hr) (r_ix (hu65 hr) (r_nm 8) (r_neg r_int)) r_int))))))))
  (s_one (s_ret r_bl))
  s_nil)
  (s_one (s_if (q_cmp (oNe (hu64 hr)) (r_lc (own := [("call", 18)]) rfl S.nd (i_disp (r_cons (r_fn rfl (T.gl "count_states" (M 19))) (r_cons (r_fn rfl (T.gl "wrong_chain" (M 18))) r_nil))) (blk_by (N := N_p_law) (sc := defScope st_p_law) (by decide +kernel)) (fun _ _ _ _ _ => (g_name S.nd)) (fun _ _ _ _ _ => ts_nil) (fun _ _ _ _ _ => (r_err (k := 8) LE TB (code_of F) rfl (hr.mono (by omega)) (lamS_by (by kernel_rfl)) (fun _ _ _ _ _ => rfl) fun A' outer s H E f c' hr tk => (r_callV (i := 18) (km := 7) (tbl := [("count_states", F_p_count_states), ("wrong_chain", F_p_wrong_chain)]) (tb_cons D_p_count_states (ar_p_count_states) (by decide) (tb_cons D_p_wrong_chain (ar_p_wrong_chain) (by decide) tb_nil)) tk (hr.mono (by omega)) (r_cons (r_tup (r_cons (r_ix (hu65 hr) (r_nm 4) r_int) (r_cons r_non r_nil))) r_nil))))) (r_bin oMul (r_lst (r_cons r_str r_nil)) r_int))
  (s_one (s_ret r_bl))
  s_nil))))))))))))
  (s_cons (s_par3 rfl S.nd (by decide) (by decide) (by decide) (r_cons (r_callD D_law_queue tk (hr.mono (by omega)) (ar_law_queue) (r_cons r_int (r_cons r_int (r_cons r_int r_nil)))) (r_cons (r_callD D_law_queue tk (hr.mono (by omega)) (ar_law_queue) (r_cons r_int (r_cons r_int (r_cons r_int r_nil)))) (r_cons (r_callD D_law_queue tk (hr.mono (by omega)) (ar_law_queue) (r_cons r_int (r_cons r_int (r_cons r_int r_nil)))) r_nil))))
  (s_cons (s_if (q_cmp (oNe (hu64 hr)) (r_lst (r_cons (r_callD D_p_count_states tk (hr.mono (by omega)) (ar_p_count_states) (r_cons (r_tup (r_cons (r_nm 10) r_nil)) r_nil)) (r_cons (r_callD D_p_count_states tk (hr.mono (by omega)) (ar_p_count_states) (r_cons (r_tup (r_cons (r_nm 10) (r_cons (r_nm 10) r_nil))) r_nil)) (r_cons (r_callD D_p_count_states tk (hr.mono (by omega)) (ar_p_count_states) (r_cons (r_tup (r_cons (r_callD D_law_queue tk (hr.mono (by omega)) (ar_law_queue) (r_cons r_int (r_cons r_int (r_cons r_int r_nil)))) r_nil)) r_nil)) r_nil)))) (r_lst (r_cons r_int (r_cons r_int (r_cons r_int r_nil)))))
  (s_one (s_ret r_bl))
  s_nil)
  (s_cons (s_if (q_bool (w_or (q_cmp oIsNot (r_callD D_p_wrong_chain tk (hr.mono (by omega)) (ar_p_wrong_chain) (r_cons (r_tup (r_cons (r_nm 10) (r_cons (r_nm 10) r_nil))) r_nil)) r_non) (w_or1 (q_cmp (oNe (hu64 hr)) (r_callD D_p_wrong_chain tk (hr.mono (by omega)) (ar_p_wrong_chain) (r_cons (r_tup (r_cons (r_nm 11) (r_cons (r_nm 12) r_nil))) r_nil)) (r_bin oAdd (r_bin oMul (r_tup (r_cons (r_tup (r_cons r_bl (r_cons r_bl r_nil))) r_nil)) r_int) (r_tup (r_cons (r_tup (r_cons r_bl (r_cons r_bl r_nil))) r_nil)))))))
  (s_one (s_ret r_bl))
  s_nil)
  (s_cons (s_set S.nd (r_tup (r_cons r_int (r_cons (r_bin oAdd (r_sl (r_ix (hu65 hr) (r_nm 10) r_int) o_none (o_some r_int)) (r_tup (r_cons (r_tup (r_cons r_int (r_cons r_bl (r_cons (r_bin oMul (r_tup (r_cons (r_tup (r_cons r_int (r_cons r_bl r_nil))) (r_cons (r_tup (r_cons r_int (r_cons r_bl r_nil))) r_nil))) r_int) r_nil)))) (r_cons (r_tup (r_cons r_int (r_cons r_bl (r_cons (r_bin oMul (r_tup (r_cons (r_tup (r_cons r_int (r_cons r_bl r_nil))) (r_cons (r_tup (r_cons r_int (r_cons r_bl r_nil))) r_nil))) r_int) r_nil)))) r_nil)))) r_nil))))
  (s_one (s_ret (r_and (r_callD D_p_is_good tk (hr.mono (by omega)) (ar_p_is_good) (r_cons (r_nm 13) r_nil)) (r_and (r_cmp oIs (r_callD D_p_wrong_chain tk (hr.mono (by omega)) (ar_p_wrong_chain) (r_cons (r_tup (r_cons (r_nm 13) (r_cons (r_nm 12) r_nil))) r_nil)) r_non rfl) (r_one (r_cmp oIsNot (r_callD D_p_wrong_chain tk (hr.mono (by omega)) (ar_p_wrong_chain) (r_cons (r_tup (r_cons (r_nm 12) r_nil)) r_nil)) r_non rfl)))))))))))
theorem all_ok (T : Tx fa fn K mg) (LE : ErrD P w K mg base cs) (TBs : ∀ x ∈ tf, LamX.TabB base mg (tCd K x) (tP K x)) {fd : FuncData} (F : FunD K "law" "law" (defArgs st_p_law) (defBody st_p_law) (defScope st_p_law) [] [] (He.ga K "law") fd) : FnOk P w K mg base (L2N.CX P w) 11 (He.ga K "law") fd ["script"] (spF ⟨P, w, K, mg⟩ 1 (F_p_law K)) := by
  have D_law_open : DefOk P w K mg base 1 "_law_open" 2 F_law_open := ok_law_open T 
  have D_law_beats : DefOk P w K mg base 2 "_law_beats" 2 F_law_beats := ok_law_beats T D_law_open
  have D_law_begin : DefOk P w K mg base 1 "_law_begin" 1 F_law_begin := ok_law_begin T 
  have D_law_fault : DefOk P w K mg base 1 "_law_fault" 2 F_law_fault := ok_law_fault T 
  have D_law_on : DefOk P w K mg base 2 "_law_on" 4 F_law_on := ok_law_on T D_law_fault
  have D_law_all : DefOk P w K mg base 3 "_law_all" 1 F_law_all := ok_law_all T D_law_begin D_law_beats D_law_on
  have D_law_under : DefOk P w K mg base 1 "_law_under" 2 F_law_under := ok_law_under T 
  have D_law_any_row : DefOk P w K mg base 2 "_law_any_row" 2 F_law_any_row := ok_law_any_row T D_law_under
  have D_law_otherwise : DefOk P w K mg base 2 "_law_otherwise" 2 F_law_otherwise := ok_law_otherwise T D_law_under
  have D_law_queue : DefOk P w K mg base 1 "_law_queue" 3 F_law_queue := ok_law_queue T 
  have D_law_some : DefOk P w K mg base 2 "_law_some" 2 F_law_some := ok_law_some T D_law_under
  have D_law_stage : DefOk P w K mg base 3 "_law_stage" 1 F_law_stage := ok_law_stage T D_law_some D_law_under D_law_queue D_law_otherwise D_law_any_row
  have D_law_chain : DefOk P w K mg base 4 "_law_chain" 2 F_law_chain := ok_law_chain T D_law_under D_law_stage
  have D_law_word : DefOk P w K mg base 1 "_law_word" 4 F_law_word := ok_law_word T 
  have D_law_gone : DefOk P w K mg base 2 "_law_gone" 2 F_law_gone := ok_law_gone T D_law_word
  have D_law_can_give : DefOk P w K mg base 3 "_law_can_give" 2 F_law_can_give := ok_law_can_give T D_law_gone D_law_word
  have D_law_course : DefOk P w K mg base 4 "_law_course" 3 F_law_course := ok_law_course T D_law_under D_law_can_give
  have D_law_first_fault : DefOk P w K mg base 3 "_law_first_fault" 2 F_law_first_fault := ok_law_first_fault T D_law_gone D_law_fault
  have D_law_good_stage : DefOk P w K mg base 2 "_law_good_stage" 1 F_law_good_stage := ok_law_good_stage T D_law_under D_law_queue
  have D_law_vat : DefOk P w K mg base 1 "_law_vat" 2 F_law_vat := ok_law_vat T 
  have D_p_words_of : DefOk P w K mg base 1 "words_of" 2 F_p_words_of := ok_p_words_of T 
  have D_p_reached : DefOk P w K mg base 2 "reached" 2 F_p_reached := ok_p_reached T D_p_words_of
  have D_p_beats_of : DefOk P w K mg base 3 "beats_of" 2 F_p_beats_of := ok_p_beats_of T D_p_reached
  have D_p_frees_of : DefOk P w K mg base 3 "frees_of" 3 F_p_frees_of := ok_p_frees_of T D_p_reached
  have D_p_step : DefOk P w K mg base 2 "step" 4 F_p_step := ok_p_step T D_p_words_of
  have D_p_wrong_word : DefOk P w K mg base 3 "wrong_word" 4 F_p_wrong_word := ok_p_wrong_word T D_p_step
  have D_p_chain_step : DefOk P w K mg base 4 "chain_step" 4 F_p_chain_step := ok_p_chain_step T D_p_frees_of D_p_wrong_word D_p_step
  have D_p_first_state : DefOk P w K mg base 1 "first_state" 1 F_p_first_state := ok_p_first_state T 
  have D_p_first_of : DefOk P w K mg base 2 "first_of" 1 F_p_first_of := ok_p_first_of T D_p_first_state
  have D_p_all_ways : DefOk P w K mg base 5 "all_ways" 1 F_p_all_ways := ok_p_all_ways T D_p_first_of D_p_beats_of D_p_chain_step
  have D_p_is_whole : DefOk P w K mg base 1 "is_whole" 3 F_p_is_whole := ok_p_is_whole T 
  have D_p_is_move : DefOk P w K mg base 2 "is_move" 2 F_p_is_move := ok_p_is_move T D_p_is_whole
  have D_p_is_row : DefOk P w K mg base 3 "is_row" 2 F_p_is_row := ok_p_is_row T D_p_is_whole D_p_is_move
  have D_p_has_stage : DefOk P w K mg base 4 "has_stage" 1 F_p_has_stage := ok_p_has_stage T D_p_is_whole D_p_is_row
  have D_p_has_chain : DefOk P w K mg base 5 "has_chain" 1 F_p_has_chain := ok_p_has_chain T D_p_has_stage
  have D_p_need_chain : DefOk P w K mg base 6 "need_chain" 1 F_p_need_chain := ok_p_need_chain T D_p_has_chain
  have D_p_count_states : DefOk P w K mg base 7 "count_states" 1 F_p_count_states := ok_p_count_states T D_p_need_chain D_p_all_ways
  have D_p_need_stage : DefOk P w K mg base 5 "need_stage" 1 F_p_need_stage := ok_p_need_stage T D_p_has_stage
  have D_p_found_wrong : DefOk P w K mg base 4 "found_wrong" 1 F_p_found_wrong := ok_p_found_wrong T D_p_first_state D_p_beats_of D_p_wrong_word D_p_step
  have D_p_never_wrong : DefOk P w K mg base 5 "never_wrong" 1 F_p_never_wrong := ok_p_never_wrong T D_p_found_wrong
  have D_p_is_good : DefOk P w K mg base 6 "is_good" 1 F_p_is_good := ok_p_is_good T D_p_need_stage D_p_never_wrong
  have D_p_wrong_chain : DefOk P w K mg base 7 "wrong_chain" 1 F_p_wrong_chain := ok_p_wrong_chain T D_p_need_chain D_p_all_ways D_p_beats_of D_p_chain_step
  exact ok_p_law T D_law_vat D_law_chain D_law_all D_p_count_states D_p_wrong_chain D_law_first_fault D_law_under D_law_good_stage D_p_is_good D_law_course D_law_gone D_law_queue LE (TBs _ (by simp [tf])) F
end
end Law
set_option maxHeartbeats 0
namespace Law
open PySem PySem.Spec PyProof.Rows L2 L2H LamX Mi
abbrev st_nm : Stmt := topS 61
abbrev N_nm : List Str := ["e", "some", "labels", "word", "good"]
theorem sc_nm : FnScope N_nm ["e"] (defScope st_nm) := ⟨rfl, rfl, rfl, by decide +kernel, rfl, by decide +kernel, by decide +kernel⟩
theorem pick_sum (f : Str → Nat) : ∀ (ws : List Str) (bs : List Bool), ((pick ws bs).map f).sum ≤ (ws.map f).sum
  | [], _ => by simp [pick]
  | _ :: _, [] => by simp [pick]
  | w :: ws, b :: bs => by
    have ih := pick_sum f ws bs
    simp only [pick]
    split <;> simp <;> omega
theorem nm_body {P : Program} {w : World} {K : PySem.W.Frag} {mg : Str → Option Value} {base : Heap} {f : Addr} {cd : Value} {c : Str} (gl : ∀ x ∈ clNames, mg x = some (.ref (He.ga K x))) (mi : mg "isinstance" = none) (mz : mg "zip" = none) (mv : mg "ValueError" = none) (ho : oneB K c = true)
    {a : Addr} {d : Option Addr} {oe : Obj} (hz : L2N.Zn (.ref (He.ga K c)) d oe) (hf : ∃ vs, oe.data = .fields vs) {A : Around} {outer : List Env} {s : Shared} {H : Hp} {E : XK} (hh : A.handled = some (.ref a)) :
    PSs (cxH C8.CX0 P w K mg base N_nm "_law_names" (defScope st_nm) f cd A outer s H E (a, oe)) (defBody st_nm) (fun D σ H => σ[0]? = some (some (V.ref a)) ∧ 4 < σ.length ∧ DOk d H ∧ ∀ H', Kp H H' → D.rt (.str (Txt.join " " (pick (Txt.split "stage chain course beat pattern number seen unlike undo text many wrong value" " ") (clNames.map (fun x => decide (c = x)) ++ [true])))) H') := by
  obtain ⟨hC, _, hv, hk⟩ := one_of ho
  have xa : ExAt (cxH C8.CX0 P w K mg base N_nm "_law_names" (defScope st_nm) f cd A outer s H E (a, oe)) a (He.ga K c) d oe := ⟨List.mem_singleton.mpr rfl, hz, hf, hh⟩
  have hl : (clNames.map (fun x => decide (c = x)) ++ [true]).length ≤ sizeLine := by simp [clNames, sizeLine_eq]
  refine names_pss sc_nm.nd (hn_cons (hn_own hC xa mi (gl "InvalidStage" (M 0)) (hk "InvalidStage" (M 0))) (hn_cons (hn_own hC xa mi (gl "InvalidChain" (M 1)) (hk "InvalidChain" (M 1))) (hn_cons (hn_own hC xa mi (gl "InvalidCourse" (M 2)) (hk "InvalidCourse" (M 2))) (hn_cons (hn_own hC xa mi (gl "InvalidBeat" (M 3)) (hk "InvalidBeat" (M 3))) (hn_cons (hn_own hC xa mi (gl "InvalidPattern" (M 4)) (hk "InvalidPattern" (M 4))) (hn_cons (hn_own hC xa mi (gl "InvalidNumber" (M 5)) (hk "InvalidNumber" (M 5))) (hn_cons (hn_own hC xa mi (gl "InvalidSeen" (M 6)) (hk "InvalidSeen" (M 6))) (hn_cons (hn_own hC xa mi (gl "Unlike" (M 7)) (hk "Unlike" (M 7))) (hn_cons (hn_own hC xa mi (gl "NothingToUndo" (M 8)) (hk "NothingToUndo" (M 8))) (hn_cons (hn_own hC xa mi (gl "InvalidText" (M 9)) (hk "InvalidText" (M 9))) (hn_cons (hn_own hC xa mi (gl "TooMany" (M 10)) (hk "TooMany" (M 10))) (hn_cons (hn_own hC xa mi (gl "Wrong" (M 11)) (hk "Wrong" (M 11))) (hn_cons (hn_bi hC xa mi mv (by rfl) hv) hn_nil))))))))))))) hl ?lc ?hj
  case lc =>
    exact hn_lc (sep := " ") (L := "stage chain course beat pattern number seen unlike undo text many wrong value") xa.hot sc_nm.nd mz (by decide +kernel) (by decide +kernel) (by rw [List.length_append, List.length_map]; decide +kernel) hl (blk_by (N := N_nm) (sc := defScope st_nm) (own := [("word", 3), ("good", 4)]) (by decide +kernel)) rfl
  case hj =>
    have h1 := pick_sum (·.length) (Txt.split "stage chain course beat pattern number seen unlike undo text many wrong value" " ") (clNames.map (fun x => decide (c = x)) ++ [true])
    have h2 := pick_len (Txt.split "stage chain course beat pattern number seen unlike undo text many wrong value" " ") (clNames.map (fun x => decide (c = x)) ++ [true])
    have h3 : ((Txt.split "stage chain course beat pattern number seen unlike undo text many wrong value" " ").map (·.length)).sum ≤ 1000 := by decide +kernel
    have h4 : (Txt.split "stage chain course beat pattern number seen unlike undo text many wrong value" " ").length ≤ 20 := by decide +kernel
    have h5 : (" " : Str).length = 1 := by decide +kernel
    rw [h5]
    omega
abbrev st_er : Stmt := topS 62
abbrev N_er : List Str := ["call", "e"]
theorem sc_er : FnScope N_er ["call"] (defScope st_er) := ⟨rfl, rfl, rfl, by decide +kernel, rfl, by decide +kernel, by decide +kernel⟩
def errD {P : Program} {w : World} {K : PySem.W.Frag} {mg : Str → Option Value} {base : Heap} {cs : List Str} {fdg fdn : FuncData} (gl : ∀ x ∈ clNames, mg x = some (.ref (He.ga K x))) (mi : mg "isinstance" = none) (mz : mg "zip" = none) (mv : mg "ValueError" = none) (ms : mg "StopError" = some (.ref (He.ga K "StopError")))
    (mg1 : mg "_law_error" = some (.ref (He.ga K "_law_error"))) (mg2 : mg "_law_names" = some (.ref (He.ga K "_law_names")))
    (F1 : FunD K "_law_error" "_law_error" (defArgs st_er) (defBody st_er) (defScope st_er) [] [] (He.ga K "_law_error") fdg) (F2 : FunD K "_law_names" "_law_names" (defArgs st_nm) (defBody st_nm) (defScope st_nm) [] [] (He.ga K "_law_names") fdn)
    (hcs : ∀ c ∈ cs, c ∈ clNames ∧ oneB K c = true ∧ Txt.join " " (pick (Txt.split "stage chain course beat pattern number seen unlike undo text many wrong value" " ") (clNames.map (fun x => decide (c = x)) ++ [true])) = nmOf c) : ErrD P w K mg base cs where
  g := He.ga K "_law_error"
  f := He.ga K "_law_names"
  SE := He.ga K "StopError"
  fdg := fdg
  fdn := fdn
  stg := st_er
  stn := st_nm
  Ng := N_er
  Nn := N_nm
  a := "call"
  en := "e"
  e' := "e"
  p1 := _
  p2 := _
  p3 := _
  p4 := _
  p5 := _
  p6 := _
  p7 := _
  p8 := _
  p9 := _
  p10 := _
  p11 := _
  p12 := _
  j := _
  Fg := funD_fun F1
  Sg := sc_er
  bg := F1.bindsN fun _ _ _ _ _ _ us hl => match us, hl with | [_], _ => rfl
  mG := mg1
  bodyG := rfl
  va := .inl rfl
  N0 := rfl
  N1 := rfl
  le := rfl
  gS := rfl
  gN := rfl
  da := by decide
  ca := by decide
  de := by decide
  ce := by decide
  mS := ms
  Fn := funD_fun F2
  Sn := sc_nm
  N5 := by decide
  bn := F2.bindsN fun _ _ _ _ _ _ us hl => match us, hl with | [_], _ => rfl
  mN := mg2
  cls := fun c hc => by
    obtain ⟨h1, h2, h3⟩ := hcs c hc
    refine ⟨He.ga K c, gl c h1, (one_of h2).2.1, fun a d oe hz hf A outer s H E hh => ?_⟩
    rw [← h3]
    exact nm_body gl mi mz mv h2 hz hf hh
abbrev RR : PySem.W.OpenRow := PySem.W.OpenLaw.row PySem.Challenge.rw_latestops_k07_whole_chains_of_good_stage
def exA (K : PySem.W.Frag) : Bool := exB cs K && tfB tf K
def hk : PySem.W.Hook := He.hookX 4 fa fn [] (tf.map fun x => (x, none)) exA
def ob (s : PySem.W.SharedT) : He.AlX := He.obsX 4 fa fn [] (tf.map fun x => (x, none)) exA (HandSHeadRun.getT s)
def loose : List Str := ([("__name__" : Str), ("StopError" : Str), ("InvalidStage" : Str), ("InvalidChain" : Str), ("InvalidCourse" : Str), ("InvalidBeat" : Str), ("InvalidPattern" : Str), ("InvalidNumber" : Str), ("InvalidSeen" : Str), ("Unlike" : Str), ("NothingToUndo" : Str), ("TooMany" : Str), ("Wrong" : Str), ("InvalidText" : Str), ("MOST_ROWS" : Str), ("MOST_HELD" : Str), ("is_whole" : Str), ("is_move" : Str), ("is_row" : Str), ("has_stage" : Str), ("need_stage" : Str), ("first_state" : Str), ("words_of" : Str), ("reached" : Str), ("step" : Str), ("wrong_word" : Str), ("beats_of" : Str), ("MOST_STATES" : Str), ("has_chain" : Str), ("need_chain" : Str)] : List Str) ++ ([("first_of" : Str), ("frees_of" : Str), ("chain_step" : Str), ("all_ways" : Str), ("count_states" : Str), ("wrong_chain" : Str), ("found_wrong" : Str), ("never_wrong" : Str), ("is_good" : Str), ("_law_vat" : Str), ("_law_under" : Str), ("_law_some" : Str), ("_law_queue" : Str), ("_law_stage" : Str), ("_law_any_row" : Str), ("_law_otherwise" : Str), ("_law_chain" : Str), ("_law_word" : Str), ("_law_gone" : Str), ("_law_can_give" : Str), ("_law_course" : Str), ("_law_fault" : Str), ("_law_first_fault" : Str), ("_law_begin" : Str), ("_law_on" : Str), ("_law_open" : Str), ("_law_beats" : Str), ("_law_names" : Str), ("_law_error" : Str), ("_law_all" : Str)] : List Str) ++ ([("_law_good_stage" : Str)] : List Str)
theorem run (w : World) : HandSHeadRun.RunEq RR (PySem.W.view RR.prog [65]) hk ob 6000 loose w := by
  intro os
  kernel_rfl
theorem ob_eq (s : PySem.W.SharedT) : ob s = hk.obs s.abs := He.obsX_eq (HandSHeadRun.getT_eq s)
theorem gl_mem (x : Str) (h : x ∈ clNames) : He.Fa.glo x ∈ fa := by
  simp only [clNames, List.mem_cons, List.not_mem_nil, or_false] at h
  rcases h with rfl | rfl | rfl | rfl | rfl | rfl | rfl | rfl | rfl | rfl | rfl | rfl
  · exact M 17
  · exact M 15
  · exact M 61
  · exact M 62
  · exact M 63
  · exact M 64
  · exact M 65
  · exact M 66
  · exact M 67
  · exact M 68
  · exact M 69
  · exact M 70
end Law
set_option maxHeartbeats 0
namespace Law
open PySem PySem.Spec PyProof.Rows L2 L2H LamX Mi
theorem plain_law {K : PySem.W.Frag} {ns : List Int} {S : Sto} (hl : ns.length ≤ 63) (hb : ∀ z ∈ ns, Builtin.Int.intBits z ≤ 1048576) (ht : ∀ x ∈ tf, S.any (isTab (tP K x) (lamQ x)) = true) : (F_p_law K [.ro (ns.map .int)] S).sat (fun _ _ => False) fun v _ => v = .pv (.bool true) :=
  sat_law hl (ht "law" (by simp [tf])) fun _ => rfl
end Law
set_option maxHeartbeats 0
namespace Law
open PySem PySem.Spec PyProof.Rows L2 L2H LamX Mi
theorem hcs0 : cs.all (fun c => decide (c ∈ clNames) && decide (Txt.join " " (pick (Txt.split "stage chain course beat pattern number seen unlike undo text many wrong value" " ") (clNames.map (fun x => decide (c = x)) ++ [true])) = nmOf c)) = true := by decide +kernel
theorem the_end {w : World} {K : PySem.W.Frag} {h : Heap} {mg : Str → Option Value} {f : Addr} (KX : K.In h) (G : h.Ns mainGlobals mg) (c : He.SaysX fa fn [] (tf.map fun x => (x, none)) exA w h K) (hmg : mg "law" = some (.ref f)) :
    LawAtS PySem.Challenge.rw_latestops_k07_whole_chains_of_good_stage w K (L2N.CX (PySem.Challenge.rw_latestops_k07_whole_chains_of_good_stage).prog w) 11 63 "script" mg f h := by
  obtain ⟨h1, h2⟩ := He.ba (show (exB cs K && tfB tf K) = true from c.more)
  have T : Tx fa fn K mg := Tx.of KX G c.t.d
  obtain ⟨fd, F⟩ := T.df (dOf "law" (topS 65)) (M 42)
  obtain ⟨fdg, F1⟩ := T.df (dOf "_law_error" (topS 62)) (M 43)
  obtain ⟨fdn, F2⟩ := T.df (dOf "_law_names" (topS 61)) (M 44)
  have hcs : ∀ c ∈ cs, c ∈ clNames ∧ oneB K c = true ∧ Txt.join " " (pick (Txt.split "stage chain course beat pattern number seen unlike undo text many wrong value" " ") (clNames.map (fun x => decide (c = x)) ++ [true])) = nmOf c := fun c hc => by
    have z := List.all_eq_true.mp hcs0 c hc
    simp only [Bool.and_eq_true, decide_eq_true_eq] at z
    exact ⟨z.1, List.all_eq_true.mp h1 c hc, z.2⟩
  exact law_at KX c h2 hmg (T.gl _ (M 60)) (fun s u => FunD.bindsA (ps := ["script"]) F (fun _ _ _ _ _ _ us hl => match us, hl with | [_], _ => rfl) s [u] rfl)
    (fun base KB GB hT => all_ok T (errD (cs := cs) (fun x hx => T.gl x (gl_mem x hx)) (T.fr _ (M 10)) (T.fr _ (M 74)) (T.fr _ (M 75)) (T.gl _ (M 71)) (T.gl _ (M 72)) (T.gl _ (M 73)) F1 F2 hcs) hT F) (fun ns S hl hb ht => plain_law hl hb ht)
end Law
open PySem PySem.W PySem.Calls PyProof.Rows
set_option maxRecDepth 100000 in
set_option maxHeartbeats 0 in
theorem PySem.Challenge.cw_latestops_k07_whole_chains_of_good_stage_holds : PySem.Challenge.rw_latestops_k07_whole_chains_of_good_stage.Holds := by
  w_on; o_law
  refine HandSHeadRun.head_any (r := OpenLaw.row PySem.Challenge.rw_latestops_k07_whole_chains_of_good_stage) (q := view (OpenLaw.row PySem.Challenge.rw_latestops_k07_whole_chains_of_good_stage).prog [65]) (H := Law.hk) (ob := Law.ob) (M := 6000) (loose := Law.loose) (d := HandSHeadRun.topDef (OpenLaw.row PySem.Challenge.rw_latestops_k07_whole_chains_of_good_stage).prog 65) (kwd := []) Law.ob_eq
    (by kernel_rfl) (fun s => by kernel_rfl) Law.run (by kernel_rfl) (by kernel_rfl) (by kernel_rfl) (by rfl) (by first | assumption | decide +kernel) (by decide +kernel) ⟨rfl, rfl, rfl, rfl, rfl, by decide +kernel⟩ ?hw ?hc
  case hw => w_witness2
  case hc =>
    refine LamX.walk_ofTsE (l := PySem.Challenge.rw_latestops_k07_whole_chains_of_good_stage) (n := 63) (k := 11) (x := "script") (CX := fun w => L2N.CX (PySem.Challenge.rw_latestops_k07_whole_chains_of_good_stage).prog w) rfl (by decide) (by kernel_rfl) ⟨rfl, by decide, by decide⟩ ?F (fun w H s e s' ⟨_, _, _, _, _, _, _, _, _, _, _, _, z⟩ => z)
    intro w mg fa h Y G hmg0
    obtain ⟨K, KX, c⟩ := Y
    have hmg : mg ("law" : PySem.Str) = some (.ref fa) := by
      have e : (HandSHeadRun.topDef (OpenLaw.row PySem.Challenge.rw_latestops_k07_whole_chains_of_good_stage).prog 65).name = ("law" : PySem.Str) := by kernel_rfl
      rw [← e]
      exact hmg0
    exact ⟨K, KX, Law.the_end KX G c hmg⟩
