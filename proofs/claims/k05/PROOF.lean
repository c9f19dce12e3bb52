import PyProof.Rows.All
import Wide.All
import OpenK.AllK
import Wide.FinOn
import HandS.ForMost
import HandS.Lambda
import HandS.NoneIn
import HandS.Zip
import HandS.Head2
import HandS.HeadHook1
import KE.KExcSuper
import HandS.ExcOwn
import HandS.ExcInit
import HandS.WordsExc
import HandS.Wide
import HandS.TupAny
import HandS.SortRule
import HandS.IsInst
import PyProof.ReprLen
import PyProof.ReprRoads
import HandS.Style
import HandS.Deep
import HandS.SortInts
import HandS.SetFor
import HandS.Strs
import KE.GoesEnum
import HandS.Star
import KE.KTupSum
import HandS.SetKeys
import HandS.TupMul
import HandS.Conv
import HandS.BoundDict
import HandS.Property
import OpenK.KMeth
import KE.KOpsOwn
import HandS.DictComp
import HandS.Text
import HandS.Comp
import KE.KDictZip
import KE.KDictItemsList
import HandS.ListItems
import KE.DataMinMax
import HandS.Defaults
import HandS.ExcValue
import HandS.TryMany
import HandS.ExcField
import HandS.ExcIs
import KE.KExcIs
import HandS.EndTab
import HandS.RevRange
import PySem.Challenge.RW_piecefacts_k05_conditions_of_any_values
set_option Elab.async false
set_option linter.all false
set_option maxRecDepth 100000
namespace Dl
open PySem L2
class TabN where
  nm : Addr → Option Str
instance (priority := 1) tabN0 : TabN := ⟨fun _ => none⟩
variable [TabN]
def TabsN (H : Hp) : Prop := ∀ (P : Addr) (q : Str), TabN.nm P = some q → LamX.TabS H P q
inductive D where
  | non | bl (b : Bool) | int (i : Int) | str (x : Str)
  | tup (ds : List D) | lst (ds : List D) | dct (kvs : List (Key × D)) | raw (v : V) | arg (ns : List Int) | tix (ys : List Str) | obj (c : Str) (fs : List (Str × D)) | exc (c : Str) (f : Str) (v : D) | fn (f c : Addr) (q : Str) (vs : List V) (ds : List D)
inductive O where
  | lst (ds : List D) | dct (kvs : List (Key × D)) | obj (c : Str) (fs : List (Str × D))
def O.d : O → D
  | .lst ds => .lst ds
  | .dct kvs => .dct kvs
  | .obj c fs => .obj c fs
def ClsAt (K : PySem.W.Frag) (c : Str) (C : Addr) : Prop := PySem.W.nsIn K mainGlobals c = some (some (.ref C))
inductive Slot where
  | nil | fro (d : D) | own (lent : Bool) (o : O) | var (i : Nat)
def KL (K : PySem.W.Frag) (a : Addr) (xs : List V) : Prop :=
  ∃ (o : Obj) (its : Array Value) (n : Nat), K.lookup a = some o ∧ o.cls = .type "list" ∧ o.dict = none ∧ o.data = .seq its n ∧ its.size ≤ sizeLine ∧ Vals xs its.toList
def ArgAt (K : PySem.W.Frag) (H : Hp) (a : Addr) (ns : List Int) : Prop := (∃ o, H a = some (.frz o (.lst (ns.map V.int)))) ∨ KL K a (ns.map V.int)
def ExcO (cls : Value) (d : Option Addr) (a : Addr) : HO := .ext fun h => ∃ (oe : Obj) (vs : Array Value), h.get? a = some oe ∧ Zc cls d oe ∧ oe.data = .fields vs
def TixAt (H : Hp) (a : Addr) (ys : List Str) : Prop := ∃ o : Obj, H a = some (.frz o (.tup (ys.map V.str))) ∧ o.dict = none
theorem ArgAt.sq {K : PySem.W.Frag} {H : Hp} {a : Addr} {ns : List Int} (h : ArgAt K H a ns) : SqL K H a (ns.map V.int) := h.elim (fun ⟨o, e⟩ => .inl (.inr ⟨o, e⟩)) .inr
mutual
inductive RepV (K : PySem.W.Frag) (A : Addr → Prop) (H : Hp) : V → D → Prop
  | non : RepV K A H .non .non
  | bl (b : Bool) : RepV K A H (.bl b) (.bl b)
  | int (i : Int) : RepV K A H (.int i) (.int i)
  | str (x : Str) : RepV K A H (.str x) (.str x)
  | tup {a : Addr} {xs : List V} {ds : List D} : SqT K H a xs → RepL K A H xs ds → RepV K A H (.ref a) (.tup ds)
  | lst {a : Addr} {xs : List V} {ds : List D} : H a = some (.lst xs) → ¬ A a → RepL K A H xs ds → RepV K A H (.ref a) (.lst ds)
  | arg {a : Addr} {ns : List Int} : ArgAt K H a ns → RepV K A H (.ref a) (.arg ns)
  | tix {a : Addr} {ys : List Str} : TixAt H a ys → RepV K A H (.ref a) (.tix ys)
  | dct {a : Addr} {kvs : List (Key × V)} {kds : List (Key × D)} : Rd H a (.dK kvs) → ¬ A a → RepK K A H kvs kds → RepV K A H (.ref a) (.dct kds)
  | raw (v : V) : RepV K A H v (.raw v)
  | obj {a C dx : Addr} {c : Str} {fvs : List (Str × V)} {fds : List (Str × D)} : H a = some (.ins C dx fvs) → ¬ A a → ClsAt K c C → RepF K A H fvs fds → RepV K A H (.ref a) (.obj c fds)
  | exc {a C dd : Addr} {c f : Str} {v : V} {d : D} : H a = some (ExcO (.ref C) (some dd) a) → H dd = some (.xd [(f, v)]) → ClsAt K c C → RepV K A H v d → RepV K A H (.ref a) (.exc c f d)
  | fn {f c : Addr} {q : Str} {vs : List V} {ds : List D} : H c = some (LamX.CodeO c q) → RepL K A H vs ds → RepV K A H (.ref f) (.fn f c q vs ds)
inductive RepL (K : PySem.W.Frag) (A : Addr → Prop) (H : Hp) : List V → List D → Prop
  | nil : RepL K A H [] []
  | cons {v : V} {vs : List V} {d : D} {ds : List D} : RepV K A H v d → RepL K A H vs ds → RepL K A H (v :: vs) (d :: ds)
inductive RepK (K : PySem.W.Frag) (A : Addr → Prop) (H : Hp) : List (Key × V) → List (Key × D) → Prop
  | nil : RepK K A H [] []
  | cons {k : Key} {v : V} {vs : List (Key × V)} {d : D} {ds : List (Key × D)} : RepV K A H v d → RepK K A H vs ds → RepK K A H ((k, v) :: vs) ((k, d) :: ds)
inductive RepF (K : PySem.W.Frag) (A : Addr → Prop) (H : Hp) : List (Str × V) → List (Str × D) → Prop
  | nil : RepF K A H [] []
  | cons {k : Str} {v : V} {vs : List (Str × V)} {d : D} {ds : List (Str × D)} : RepV K A H v d → RepF K A H vs ds → RepF K A H ((k, v) :: vs) ((k, d) :: ds)
end
def isImm : HO → Prop
  | .tup _ => True
  | .frz _ _ => True
  | .ext _ => True
  | .xd _ => True
  | _ => False
def isTbl : HO → Prop
  | .tbl _ => True
  | _ => False
def isFix : HO → Prop
  | .tup _ => True
  | .frz _ _ => True
  | .ext _ => True
  | .tbl _ => True
  | .xd _ => True
  | _ => False
theorem isImm.fix {o : HO} (h : isImm o) : isFix o := by
  cases o <;> first | exact trivial | exact h.elim
theorem TabsN.ext {H H' : Hp} (t : TabsN H) (e : ∀ a o, H a = some o → H' a = some o) : TabsN H' := fun P q h => (t P q h).ext e
theorem TabsN.upd {H : Hp} {a : Addr} {u : HO} (t : TabsN H) (hm : ∀ o, H a = some o → ¬ isFix o) : TabsN (L2.upd H a u) := fun P q h => by
  obtain ⟨ps, h1, h2, h3⟩ := t P q h
  have ne : ∀ {b : Addr} {o : HO}, H b = some o → isFix o → b ≠ a := fun {b o} e f z => hm o (by rw [← z]; exact e) f
  refine ⟨ps, by rw [upd_ne (ne h1 trivial)]; exact h1, h2, fun pos cv hc => ?_⟩
  obtain ⟨c, e1, e2⟩ := h3 pos cv hc
  exact ⟨c, e1, by rw [upd_ne (ne e2 trivial)]; exact e2⟩
structure Kp0 (S : Addr → Prop) (H H' : Hp) : Prop where
  keep : ∀ a o, H a = some o → ¬ S a → ∀ (_ : ¬ isTbl o := by exact fun z => z), H' a = some o
  imm : ∀ a o, H a = some o → isImm o → H' a = some o
structure Kp (S : Addr → Prop) (H H' : Hp) : Prop extends Kp0 S H H' where
  trk : ∀ a, H a ≠ none → H' a ≠ none
  tab : TabsN H → TabsN H'
def Ex (H H' : Hp) : Prop := ∀ a o, H a = some o → H' a = some o
theorem Ex.refl (H : Hp) : Ex H H := fun _ _ h => h
theorem Ex.trans {H H1 H2 : Hp} (a : Ex H H1) (b : Ex H1 H2) : Ex H H2 := fun x o h => b x o (a x o h)
theorem Ex.new {H : Hp} {p : Addr} {o : HO} (h : H p = none) : Ex H (upd H p o) := fun a u e => by
  rw [upd_ne (ne_of_none e h)]; exact e
theorem Ex.back {H H' : Hp} {p : Addr} (e : Ex H H') (h : H' p = none) : H p = none := by
  cases q : H p with
  | none => rfl
  | some o => rw [e p o q] at h; cases h
theorem Ex.kp {S : Addr → Prop} {H H' : Hp} (e : Ex H H') : Kp S H H' :=
  ⟨⟨fun a o h _ _ => e a o h, fun a o h _ => e a o h⟩, fun a h => by
    cases q : H a with
    | none => exact absurd q h
    | some o => rw [e a o q]; exact nofun, fun t => t.ext e⟩
theorem Kp.refl {S : Addr → Prop} {H : Hp} : Kp S H H := (Ex.refl H).kp
theorem Kp.mono {S T : Addr → Prop} {H H' : Hp} (k : Kp S H H') (h : ∀ a, S a → T a) : Kp T H H' :=
  ⟨⟨fun a o e n t => k.keep a o e (fun z => n (h a z)) t, k.imm⟩, k.trk, k.tab⟩
theorem Kp.trans {S T : Addr → Prop} {H H1 H2 : Hp} (a : Kp S H H1) (b : Kp T H1 H2) (h : ∀ x, T x → S x) : Kp S H H2 :=
  ⟨⟨fun x o e n t => b.keep x o (a.keep x o e n t) (fun z => n (h x z)) t, fun x o e i => b.imm x o (a.imm x o e i) i⟩, fun x e => b.trk x (a.trk x e), fun t => b.tab (a.tab t)⟩
theorem Kp.back {S : Addr → Prop} {H H' : Hp} {p : Addr} (e : Kp S H H') (h : H' p = none) : H p = none := by
  cases q : H p with
  | none => rfl
  | some o => exact absurd h (e.trk p (by rw [q]; exact nofun))
theorem Kp0.rdT {S : Addr → Prop} {H H' : Hp} {K : PySem.W.Frag} {a : Addr} {xs : List V} (k : Kp0 S H H') (h : SqT K H a xs) : SqT K H' a xs := by
  rcases h with (h | ⟨o, h⟩) | h
  · exact .inl (.inl (k.imm _ _ h trivial))
  · exact .inl (.inr ⟨o, k.imm _ _ h trivial⟩)
  · exact .inr h
theorem Kp.rd {S : Addr → Prop} {H H' : Hp} {a : Addr} {u : HO} (k : Kp S H H') (h : Rd H a u) (n : ¬ S a) (t : ¬ isTbl u := by exact fun z => z) : Rd H' a u := by
  rcases h with h | ⟨o, h⟩
  · exact .inl (k.keep _ _ h n t)
  · exact .inr ⟨o, k.imm _ _ h trivial⟩
section
variable {K : PySem.W.Frag} {A A' S : Addr → Prop} {H H' : Hp}
mutual
theorem RepV.mono0 (k : Kp0 S H H') (hs : ∀ a, S a → A a) (ha : ∀ a, A' a → A a ∨ H a = none) : ∀ {v : V} {d : D}, RepV K A H v d → RepV K A' H' v d
  | _, _, .non => .non
  | _, _, .bl b => .bl b
  | _, _, .int i => .int i
  | _, _, .str x => .str x
  | _, _, .tup h r => .tup (k.rdT h) (RepL.mono0 k hs ha r)
  | _, _, .lst h n r => .lst (k.keep _ _ h fun z => n (hs _ z)) (fun z => (ha _ z).elim n fun e => by rw [e] at h; cases h) (RepL.mono0 k hs ha r)
  | _, _, .arg h => .arg (h.elim (fun ⟨o, e⟩ => .inl ⟨o, k.imm _ _ e trivial⟩) .inr)
  | _, _, .tix h => .tix (let ⟨o, e, d⟩ := h; ⟨o, k.imm _ _ e trivial, d⟩)
  | _, _, .dct h n r => .dct (h.elim (fun h => .inl (k.keep _ _ h fun z => n (hs _ z))) fun ⟨o, h⟩ => .inr ⟨o, k.imm _ _ h trivial⟩) (fun z => (ha _ z).elim n fun e => h.elim (fun h => by rw [e] at h; cases h) fun ⟨o, h⟩ => by rw [e] at h; cases h) (RepK.mono0 k hs ha r)
  | _, _, .raw v => .raw v
  | _, _, .obj h n hc r => .obj (k.keep _ _ h fun z => n (hs _ z)) (fun z => (ha _ z).elim n fun e => by rw [e] at h; cases h) hc (RepF.mono0 k hs ha r)
  | _, _, .exc h1 h2 hc r => .exc (k.imm _ _ h1 trivial) (k.imm _ _ h2 trivial) hc (RepV.mono0 k hs ha r)
  | _, _, .fn h r => .fn (k.imm _ _ h trivial) (RepL.mono0 k hs ha r)
theorem RepL.mono0 (k : Kp0 S H H') (hs : ∀ a, S a → A a) (ha : ∀ a, A' a → A a ∨ H a = none) : ∀ {vs : List V} {ds : List D}, RepL K A H vs ds → RepL K A' H' vs ds
  | _, _, .nil => .nil
  | _, _, .cons h r => .cons (RepV.mono0 k hs ha h) (RepL.mono0 k hs ha r)
theorem RepK.mono0 (k : Kp0 S H H') (hs : ∀ a, S a → A a) (ha : ∀ a, A' a → A a ∨ H a = none) : ∀ {vs : List (Key × V)} {ds : List (Key × D)}, RepK K A H vs ds → RepK K A' H' vs ds
  | _, _, .nil => .nil
  | _, _, .cons h r => .cons (RepV.mono0 k hs ha h) (RepK.mono0 k hs ha r)
theorem RepF.mono0 (k : Kp0 S H H') (hs : ∀ a, S a → A a) (ha : ∀ a, A' a → A a ∨ H a = none) : ∀ {vs : List (Str × V)} {ds : List (Str × D)}, RepF K A H vs ds → RepF K A' H' vs ds
  | _, _, .nil => .nil
  | _, _, .cons h r => .cons (RepV.mono0 k hs ha h) (RepF.mono0 k hs ha r)
end
theorem RepF.mono (k : Kp S H H') (hs : ∀ a, S a → A a) (ha : ∀ a, A' a → A a ∨ H a = none) {v : List (Str × V)} {d : List (Str × D)} (r : RepF K A H v d) : RepF K A' H' v d := r.mono0 k.toKp0 hs ha
theorem RepV.mono (k : Kp S H H') (hs : ∀ a, S a → A a) (ha : ∀ a, A' a → A a ∨ H a = none) {v : V} {d : D} (r : RepV K A H v d) : RepV K A' H' v d := r.mono0 k.toKp0 hs ha
theorem RepL.mono (k : Kp S H H') (hs : ∀ a, S a → A a) (ha : ∀ a, A' a → A a ∨ H a = none) {v : List V} {d : List D} (r : RepL K A H v d) : RepL K A' H' v d := r.mono0 k.toKp0 hs ha
theorem RepK.mono (k : Kp S H H') (hs : ∀ a, S a → A a) (ha : ∀ a, A' a → A a ∨ H a = none) {v : List (Key × V)} {d : List (Key × D)} (r : RepK K A H v d) : RepK K A' H' v d := r.mono0 k.toKp0 hs ha
theorem RepL.length : ∀ {vs : List V} {ds : List D}, RepL K A H vs ds → vs.length = ds.length
  | _, _, .nil => rfl
  | _, _, .cons _ r => by rw [List.length_cons, List.length_cons, RepL.length r]
theorem RepL.get : ∀ {vs : List V} {ds : List D} {i : Nat} {d : D}, RepL K A H vs ds → ds[i]? = some d → ∃ v, vs[i]? = some v ∧ RepV K A H v d
  | _, _, _, _, .nil, e => by simp at e
  | _, _, 0, _, .cons h _, e => by simp at e; subst e; exact ⟨_, rfl, h⟩
  | _, _, i + 1, d, .cons _ r, e => by
    obtain ⟨v, h1, h2⟩ := RepL.get (i := i) (d := d) r (by simpa using e)
    exact ⟨v, by simpa using h1, h2⟩
theorem RepL.append : ∀ {vs ws : List V} {ds es : List D}, RepL K A H vs ds → RepL K A H ws es → RepL K A H (vs ++ ws) (ds ++ es)
  | _, _, _, _, .nil, s => s
  | _, _, _, _, .cons h r, s => .cons h (RepL.append r s)
theorem RepL.take : ∀ {vs : List V} {ds : List D} (n : Nat), RepL K A H vs ds → RepL K A H (vs.take n) (ds.take n)
  | _, _, 0, _ => .nil
  | _, _, _ + 1, .nil => .nil
  | _, _, n + 1, .cons h r => .cons h (RepL.take n r)
theorem RepL.drop : ∀ {vs : List V} {ds : List D} (n : Nat), RepL K A H vs ds → RepL K A H (vs.drop n) (ds.drop n)
  | _, _, 0, r => r
  | _, _, _ + 1, .nil => .nil
  | _, _, n + 1, .cons _ r => RepL.drop n r
theorem RepL.set {v : V} {d : D} (h : RepV K A H v d) : ∀ {vs : List V} {ds : List D} (i : Nat), RepL K A H vs ds → RepL K A H (vs.set i v) (ds.set i d)
  | _, _, _, .nil => .nil
  | _, _, 0, .cons _ r => .cons h r
  | _, _, i + 1, .cons q r => .cons q (RepL.set h i r)
theorem RepL.one {v : V} {d : D} (h : RepV K A H v d) : RepL K A H [v] [d] := .cons h .nil
theorem RepL.reverse : ∀ {vs : List V} {ds : List D}, RepL K A H vs ds → RepL K A H vs.reverse ds.reverse
  | _, _, .nil => .nil
  | _, _, .cons h r => by
    rw [List.reverse_cons, List.reverse_cons]
    exact (RepL.reverse r).append (.one h)
theorem RepL.ints (ns : List Int) : RepL K A H (ns.map V.int) (ns.map D.int) := by
  induction ns with
  | nil => exact .nil
  | cons n r ih => exact .cons (.int n) ih
end
def Own (ρ : List Slot) (σ : St) (a : Addr) : Prop := ∃ (i : Nat) (b : Bool) (o : O), ρ[i]? = some (.own b o) ∧ σ[i]? = some (some (.ref a))
def Av (B : Addr → Prop) (ρ : List Slot) (σ : St) (a : Addr) : Prop := Own ρ σ a ∨ B a
def OOk (K : PySem.W.Frag) (A : Addr → Prop) (H : Hp) (a : Addr) : O → Prop
  | .lst ds => ∃ xs, H a = some (.lst xs) ∧ RepL K A H xs ds
  | .dct kds => ∃ kvs, H a = some (.dK kvs) ∧ RepK K A H kvs kds
  | .obj c fds => ∃ C dx fvs, H a = some (.ins C dx fvs) ∧ ClsAt K c C ∧ RepF K A H fvs fds
theorem TabsN.swap {H : Hp} {a : Addr} {u o : HO} (t : TabsN H) (e : H a = some o) (n1 : ∀ ps, o ≠ .tbl ps) (n2 : ∀ φ, o ≠ .ext φ) : TabsN (L2.upd H a u) := fun P q h => by
  obtain ⟨ps, h1, h2, h3⟩ := t P q h
  have ne : ∀ {b : Addr} {x : HO}, H b = some x → (x ≠ o) → b ≠ a := fun {b x} f m z => m (by rw [z, e] at f; exact (Option.some.inj f).symm)
  refine ⟨ps, by rw [upd_ne (ne h1 fun z => n1 ps z.symm)]; exact h1, h2, fun pos cv hc => ?_⟩
  obtain ⟨c, e1, e2⟩ := h3 pos cv hc
  exact ⟨c, e1, by rw [upd_ne (ne e2 fun z => n2 _ z.symm)]; exact e2⟩
def SlotOk (K : PySem.W.Frag) (A : Addr → Prop) (H : Hp) : Slot → Option (Option V) → Prop
  | .nil, _ => True
  | .fro d, x => ∃ v, x = some (some v) ∧ RepV K A H v d
  | .own _ o, x => ∃ a, x = some (some (.ref a)) ∧ OOk K A H a o
  | .var _, _ => False
structure Rep (K : PySem.W.Frag) (B : Addr → Prop) (ρ : List Slot) (σ : St) (H : Hp) : Prop where
  len : ρ.length = σ.length
  slot : ∀ (i : Nat) (s : Slot), ρ[i]? = some s → SlotOk K (Av B ρ σ) H s σ[i]?
  inj : ∀ (i j : Nat) (b : Bool) (o : O) (b' : Bool) (o' : O) (a : Addr), ρ[i]? = some (.own b o) → ρ[j]? = some (.own b' o') → σ[i]? = some (some (.ref a)) → σ[j]? = some (some (.ref a)) → i = j
  btr : ∀ a, B a → H a ≠ none
  dis : ∀ a, Own ρ σ a → ¬ B a
  tabs : TabsN H
structure Sub (ρ' ρ : List Slot) : Prop where
  old : ∀ (i : Nat) (b : Bool) (o : O), ρ'[i]? = some (.own b o) → ∃ o' : O, ρ[i]? = some (.own b o')
  lent : ∀ (i : Nat) (o : O), ρ[i]? = some (.own true o) → ∃ o' : O, ρ'[i]? = some (.own true o')
theorem Sub.refl (ρ : List Slot) : Sub ρ ρ := ⟨fun _ _ o h => ⟨o, h⟩, fun _ o h => ⟨o, h⟩⟩
theorem Sub.trans {ρ ρ1 ρ2 : List Slot} (a : Sub ρ1 ρ) (b : Sub ρ2 ρ1) : Sub ρ2 ρ := ⟨fun i c o h => by
    obtain ⟨o1, h1⟩ := b.old i c o h
    exact a.old i c o1 h1, fun i o h => by
    obtain ⟨o1, h1⟩ := a.lent i o h
    exact b.lent i o1 h1⟩
theorem Sub.own {ρ ρ' : List Slot} {σ : St} (h : Sub ρ' ρ) (a : Addr) (x : Own ρ' σ a) : Own ρ σ a := by
  obtain ⟨i, b, o, h1, h2⟩ := x
  obtain ⟨o', h3⟩ := h.old i b o h1
  exact ⟨i, b, o', h3, h2⟩
theorem OOk.trk {K : PySem.W.Frag} {A : Addr → Prop} {H : Hp} {a : Addr} {o : O} (h : OOk K A H a o) : H a ≠ none := by
  cases o with
  | lst ds => obtain ⟨xs, e, _⟩ := h; rw [e]; exact nofun
  | dct ds => obtain ⟨xs, e, _⟩ := h; rw [e]; exact nofun
  | obj c ds => obtain ⟨C, dx, xs, e, _⟩ := h; rw [e]; exact nofun
theorem OOk.mono {K : PySem.W.Frag} {A A' S : Addr → Prop} {H H' : Hp} {a : Addr} {o : O} (k : Kp S H H') (hs : ∀ a, S a → A a) (ha : ∀ a, A' a → A a ∨ H a = none) (n : ¬ S a) (h : OOk K A H a o) : OOk K A' H' a o := by
  cases o with
  | lst ds => obtain ⟨xs, e, r⟩ := h; exact ⟨xs, k.keep _ _ e n, r.mono k hs ha⟩
  | dct ds => obtain ⟨xs, e, r⟩ := h; exact ⟨xs, k.keep _ _ e n, r.mono k hs ha⟩
  | obj c ds => obtain ⟨C, dx, xs, e, hc, r⟩ := h; exact ⟨C, dx, xs, k.keep _ _ e n, hc, r.mono k hs ha⟩
theorem Rep.own_trk {K : PySem.W.Frag} {B : Addr → Prop} {ρ : List Slot} {σ : St} {H : Hp} (R : Rep K B ρ σ H) {a : Addr} (h : Own ρ σ a) : H a ≠ none := by
  obtain ⟨i, b, o, h1, h2⟩ := h
  obtain ⟨a', e, q⟩ := R.slot i _ h1
  rw [h2] at e; cases e
  exact q.trk
theorem Rep.av_trk {K : PySem.W.Frag} {B : Addr → Prop} {ρ : List Slot} {σ : St} {H : Hp} (R : Rep K B ρ σ H) {a : Addr} (h : Av B ρ σ a) : H a ≠ none :=
  h.elim R.own_trk (R.btr a)
theorem Rep.ex {K : PySem.W.Frag} {B B' : Addr → Prop} {ρ : List Slot} {σ : St} {H H' : Hp} (R : Rep K B ρ σ H) (e : Ex H H') (hb : ∀ a, B' a → B a ∨ (H a = none ∧ H' a ≠ none)) : Rep K B' ρ σ H' where
  len := R.len
  slot := fun i s h => by
    have q := R.slot i s h
    have ha : ∀ a, Av B' ρ σ a → Av B ρ σ a ∨ H a = none := fun a z => z.elim (fun z => .inl (.inl z)) fun z => (hb a z).elim (fun z => .inl (.inr z)) fun z => .inr z.1
    cases s with
    | nil => trivial
    | fro d => obtain ⟨v, e1, r⟩ := q; exact ⟨v, e1, r.mono (S := fun _ => False) e.kp (fun _ z => z.elim) ha⟩
    | own b o => obtain ⟨a, e1, r⟩ := q; exact ⟨a, e1, r.mono (S := fun _ => False) e.kp (fun _ z => z.elim) ha (fun z => z)⟩
    | var j => exact q
  inj := R.inj
  btr := fun a z => (hb a z).elim (fun z => e.kp (S := fun _ => False) |>.trk a (R.btr a z)) fun z => z.2
  dis := fun a o z => (hb a z).elim (R.dis a o) fun z => R.own_trk o z.1
  tabs := R.tabs.ext e
theorem Rep.same {K : PySem.W.Frag} {B B' : Addr → Prop} {ρ : List Slot} {σ : St} {H H' : Hp} (R : Rep K B ρ σ H) (e : Kp (fun _ => False) H H') (hb : ∀ a, B' a → B a ∨ (H a = none ∧ H' a ≠ none)) : Rep K B' ρ σ H' where
  len := R.len
  slot := fun i s h => by
    have q := R.slot i s h
    have ha : ∀ a, Av B' ρ σ a → Av B ρ σ a ∨ H a = none := fun a z => z.elim (fun z => .inl (.inl z)) fun z => (hb a z).elim (fun z => .inl (.inr z)) fun z => .inr z.1
    cases s with
    | nil => trivial
    | fro d => obtain ⟨v, e1, r⟩ := q; exact ⟨v, e1, r.mono (S := fun _ => False) e (fun _ z => z.elim) ha⟩
    | own b o => obtain ⟨a, e1, r⟩ := q; exact ⟨a, e1, r.mono (S := fun _ => False) e (fun _ z => z.elim) ha (fun z => z)⟩
    | var j => exact q
  inj := R.inj
  btr := fun a z => (hb a z).elim (fun z => e.trk a (R.btr a z)) fun z => z.2
  dis := fun a o z => (hb a z).elim (R.dis a o) fun z => R.own_trk o z.1
  tabs := e.tab R.tabs
def Post (K : PySem.W.Frag) (B : Addr → Prop) (ρ' : List Slot) (σ : St) (H H' : Hp) : Slot → V → Prop
  | .nil, _ => False
  | .fro d, v => Rep K B ρ' σ H' ∧ RepV K (Av B ρ' σ) H' v d
  | .own _ o, v => ∃ a, v = .ref a ∧ H a = none ∧ ¬ B a ∧ Rep K (fun x => B x ∨ x = a) ρ' σ H' ∧ OOk K (Av (fun x => B x ∨ x = a) ρ' σ) H' a o
  | .var i, v => Rep K B ρ' σ H' ∧ σ[i]? = some (some v)
abbrev WE := List Slot → (Slot → List Slot → Prop) → Prop
abbrev WT := List Slot → (Bool → List Slot → Prop) → Prop
def tOf (K : PySem.W.Frag) (w : WE) : TE := fun σ H Q => ∃ (B : Addr → Prop) (ρ : List Slot) (Q' : Slot → List Slot → Prop), Rep K B ρ σ H ∧ w ρ Q' ∧
  ∀ s v ρ' H', Post K B ρ' σ H H' s v → Sub ρ' ρ → Kp (Own ρ σ) H H' → Q' s ρ' → Q v H'
def ttOf (K : PySem.W.Frag) (w : WT) : TT := fun σ H Q => ∃ (B : Addr → Prop) (ρ : List Slot) (Q' : Bool → List Slot → Prop), Rep K B ρ σ H ∧ w ρ Q' ∧
  ∀ b ρ' H', Rep K B ρ' σ H' → Sub ρ' ρ → Kp (Own ρ σ) H H' → Q' b ρ' → Q b H'
def ME (X : Cx) (e : Expr) (w : WE) : Prop := PE X e (tOf X.K w)
def MT (X : Cx) (e : Expr) (w : WT) : Prop := PT X e (ttOf X.K w)
def MW (X : Cx) (e : Expr) (w : WT) : Prop := PW X e (ttOf X.K w)
theorem PE_weak {X : Cx} {e : Expr} {t t' : TE} (h : PE X e t) (k : ∀ σ H Q, t' σ H Q → t σ H Q) : PE X e t' := ⟨fun pins s σ H Q I q => h.run pins s σ H Q I (k σ H Q q)⟩
theorem PT_weak {X : Cx} {e : Expr} {t t' : TT} (h : PT X e t) (k : ∀ σ H Q, t' σ H Q → t σ H Q) : PT X e t' := ⟨fun pins s σ H Q I q => h.run pins s σ H Q I (k σ H Q q)⟩
theorem PW_weak {X : Cx} {e : Expr} {t t' : TT} (h : PW X e t) (k : ∀ σ H Q, t' σ H Q → t σ H Q) : PW X e t' := ⟨fun wh pins s σ H Q I q => h.run wh pins s σ H Q I (k σ H Q q)⟩
theorem PA_weak {X : Cx} {e : List Expr} {t t' : TA} (h : PA X e t) (k : ∀ σ H Q, t' σ H Q → t σ H Q) : PA X e t' := ⟨fun pos pins s σ H Q I q => h.run pos pins s σ H Q I (k σ H Q q)⟩
theorem PS_weak {X : Cx} {e : Stmt} {t t' : TS} (h : PS X e t) (k : ∀ D σ H, t' D σ H → t D σ H) : PS X e t' := ⟨fun pins s σ H D I q => h.run pins s σ H D I (k D σ H q)⟩
theorem PSs_weak {X : Cx} {e : List Stmt} {t t' : TS} (h : PSs X e t) (k : ∀ D σ H, t' D σ H → t D σ H) : PSs X e t' := ⟨fun pins s σ H D I q => h.run pins s σ H D I (k D σ H q)⟩
theorem me_of {X : Cx} {e : Expr} {t : TE} {w : WE} (h : PE X e t)
    (k : ∀ (B : Addr → Prop) (ρ : List Slot) (σ : St) (H : Hp) (Q' : Slot → List Slot → Prop) (Q : VK), Rep X.K B ρ σ H → w ρ Q' →
      (∀ s v ρ' H', Post X.K B ρ' σ H H' s v → Sub ρ' ρ → Kp (Own ρ σ) H H' → Q' s ρ' → Q v H') → t σ H Q) : ME X e w :=
  PE_weak h fun σ H Q ⟨B, ρ, Q', R, hw, hq⟩ => k B ρ σ H Q' Q R hw hq
theorem mt_of {X : Cx} {e : Expr} {t : TT} {w : WT} (h : PT X e t)
    (k : ∀ (B : Addr → Prop) (ρ : List Slot) (σ : St) (H : Hp) (Q' : Bool → List Slot → Prop) (Q : Bool → Hp → Prop), Rep X.K B ρ σ H → w ρ Q' →
      (∀ b ρ' H', Rep X.K B ρ' σ H' → Sub ρ' ρ → Kp (Own ρ σ) H H' → Q' b ρ' → Q b H') → t σ H Q) : MT X e w :=
  PT_weak h fun σ H Q ⟨B, ρ, Q', R, hw, hq⟩ => k B ρ σ H Q' Q R hw hq
def lookD (ρ : List Slot) : Slot → Option D
  | .nil => none
  | .fro d => some d
  | .own _ o => some o.d
  | .var i => match ρ[i]? with
    | some (.own _ o) => some o.d
    | _ => none
def Sees (K : PySem.W.Frag) (A : Addr → Prop) (H : Hp) (v : V) : D → Prop
  | .lst ds => ∃ a xs, v = .ref a ∧ H a = some (.lst xs) ∧ RepL K A H xs ds
  | .dct kds => ∃ a kvs, v = .ref a ∧ Rd H a (.dK kvs) ∧ RepK K A H kvs kds
  | .obj c fds => ∃ a C dx fvs, v = .ref a ∧ H a = some (.ins C dx fvs) ∧ ClsAt K c C ∧ RepF K A H fvs fds
  | d => RepV K A H v d
theorem RepV.sees {K : PySem.W.Frag} {A : Addr → Prop} {H : Hp} {v : V} {d : D} (h : RepV K A H v d) : Sees K A H v d := by
  cases h with
  | non => exact .non
  | bl b => exact .bl b
  | int i => exact .int i
  | str x => exact .str x
  | tup h r => exact .tup h r
  | lst h n r => exact ⟨_, _, rfl, h, r⟩
  | arg h => exact .arg h
  | tix h => exact .tix h
  | dct h n r => exact ⟨_, _, rfl, h, r⟩
  | raw v => exact .raw v
  | obj h n hc r => exact ⟨_, _, _, _, rfl, h, hc, r⟩
  | exc h1 h2 hc r => exact .exc h1 h2 hc r
  | fn h r => exact .fn h r
theorem OOk.sees {K : PySem.W.Frag} {A : Addr → Prop} {H : Hp} {a : Addr} {o : O} (h : OOk K A H a o) : Sees K A H (.ref a) o.d := by
  cases o with
  | lst ds => obtain ⟨xs, e, r⟩ := h; exact ⟨a, xs, rfl, e, r⟩
  | dct ds => obtain ⟨xs, e, r⟩ := h; exact ⟨a, xs, rfl, .inl e, r⟩
  | obj c ds => obtain ⟨C, dx, xs, e, hc, r⟩ := h; exact ⟨a, C, dx, xs, rfl, e, hc, r⟩
theorem Post.rep {K : PySem.W.Frag} {B : Addr → Prop} {ρ' : List Slot} {σ : St} {H H' : Hp} {s : Slot} {v : V} (h : Post K B ρ' σ H H' s v) : Rep K B ρ' σ H' := by
  cases s with
  | nil => exact h.elim
  | fro d => exact h.1
  | own b o =>
    obtain ⟨a, rfl, n, nb, R, q⟩ := h
    exact R.ex (Ex.refl H') fun x z => .inl (.inl z)
  | var i => exact h.1
def Pend (K : PySem.W.Frag) (H0 : Hp) (B : Addr → Prop) (ρ : List Slot) (σ : St) (H : Hp) : Slot → V → Prop
  | .nil, _ => False
  | .fro d, v => RepV K (Av B ρ σ) H v d
  | .own _ o, v => ∃ a, v = .ref a ∧ B a ∧ H0 a = none ∧ OOk K (Av B ρ σ) H a o
  | .var i, v => σ[i]? = some (some v)
theorem Post.pend {K : PySem.W.Frag} {B : Addr → Prop} {ρ' : List Slot} {σ : St} {H H' : Hp} {s : Slot} {v : V} (h : Post K B ρ' σ H H' s v) :
    ∃ B', (∀ a, B a → B' a) ∧ (∀ a, B' a → B a ∨ H a = none) ∧ Rep K B' ρ' σ H' ∧ Pend K H B' ρ' σ H' s v := by
  cases s with
  | nil => exact h.elim
  | fro d => exact ⟨B, fun _ z => z, fun _ z => .inl z, h.1, h.2⟩
  | own b o =>
    obtain ⟨a, rfl, n, nb, R, q⟩ := h
    exact ⟨_, fun _ z => .inl z, fun x z => z.elim .inl fun e => .inr (by rw [e]; exact n), R, a, rfl, .inr rfl, n, q⟩
  | var i => exact ⟨B, fun _ z => z, fun _ z => .inl z, h.1, h.2⟩
theorem Pend.step {K : PySem.W.Frag} {H0 : Hp} {B B' : Addr → Prop} {ρ ρ' : List Slot} {σ : St} {H H' : Hp} {s : Slot} {v : V} (h : Pend K H0 B ρ σ H s v) (R : Rep K B ρ σ H) (k : Kp (Own ρ σ) H H') (hs : Sub ρ' ρ)
    (hb : ∀ a, B a → B' a) (hb' : ∀ a, B' a → B a ∨ H a = none) : Pend K H0 B' ρ' σ H' s v := by
  have ha : ∀ a, Av B' ρ' σ a → Av B ρ σ a ∨ H a = none := fun a z => z.elim (fun z => .inl (.inl (hs.own a z))) fun z => (hb' a z).elim (fun z => .inl (.inr z)) .inr
  cases s with
  | nil => exact h
  | fro d => exact RepV.mono k (fun a z => .inl z) ha h
  | own b o =>
    obtain ⟨a, rfl, n, n0, q⟩ := h
    exact ⟨a, rfl, hb a n, n0, q.mono k (fun a z => .inl z) ha fun z => R.dis a z n⟩
  | var i => exact h
theorem Pend.start {K : PySem.W.Frag} {H0 H1 : Hp} {S : Addr → Prop} {B : Addr → Prop} {ρ : List Slot} {σ : St} {H : Hp} {s : Slot} {v : V} (h : Pend K H1 B ρ σ H s v) (k : Kp S H0 H1) : Pend K H0 B ρ σ H s v := by
  cases s with
  | nil => exact h
  | fro d => exact h
  | own b o => obtain ⟨a, rfl, n, n0, q⟩ := h; exact ⟨a, rfl, n, k.back n0, q⟩
  | var i => exact h
theorem Pend.sees {K : PySem.W.Frag} {H0 : Hp} {B : Addr → Prop} {ρ : List Slot} {σ : St} {H : Hp} {s : Slot} {v : V} {d : D} (h : Pend K H0 B ρ σ H s v) (R : Rep K B ρ σ H) (e : lookD ρ s = some d) : Sees K (Av B ρ σ) H v d := by
  cases s with
  | nil => cases e
  | fro d' => cases e; exact RepV.sees h
  | own b o => cases e; obtain ⟨a, rfl, n, n0, q⟩ := h; exact q.sees
  | var i =>
    have h2 : σ[i]? = some (some v) := h
    cases h1 : ρ[i]? with
    | none => rw [lookD, h1] at e; cases e
    | some t =>
      cases t with
      | own b o =>
        rw [lookD, h1] at e; cases e
        obtain ⟨a, e1, q⟩ := R.slot i _ h1
        rw [h2] at e1; cases e1
        exact q.sees
      | nil => rw [lookD, h1] at e; cases e
      | fro d' => rw [lookD, h1] at e; cases e
      | var j => rw [lookD, h1] at e; cases e
end Dl
namespace Dl
open PySem L2
variable [TabN]
theorem postF {K : PySem.W.Frag} {B : Addr → Prop} {ρ' : List Slot} {σ : L2.St} {H H' : Hp} {d : D} {v : V} (R : Rep K B ρ' σ H') (r : RepV K (Av B ρ' σ) H' v d) : Post K B ρ' σ H H' (.fro d) v := ⟨R, r⟩
theorem postV {K : PySem.W.Frag} {B : Addr → Prop} {ρ' : List Slot} {σ : L2.St} {H H' : Hp} {i : Nat} {v : V} (R : Rep K B ρ' σ H') (r : σ[i]? = some (some v)) : Post K B ρ' σ H H' (.var i) v := ⟨R, r⟩
theorem postO {K : PySem.W.Frag} {B : Addr → Prop} {ρ' : List Slot} {σ : L2.St} {H H' : Hp} {b : Bool} {o : O} {a : Addr} (n : H a = none) (nb : ¬ B a) (R : Rep K (fun x => B x ∨ x = a) ρ' σ H') (r : OOk K (Av (fun x => B x ∨ x = a) ρ' σ) H' a o) : Post K B ρ' σ H H' (.own b o) (.ref a) := ⟨a, rfl, n, nb, R, r⟩
theorem getElem?_set_of {α : Type} {l : List α} {i j : Nat} {x y : α} (h : (l.set i x)[j]? = some y) : (i = j ∧ y = x) ∨ (i ≠ j ∧ l[j]? = some y) := by
  by_cases e : i = j
  · subst e
    rw [List.getElem?_set_self'] at h
    cases q : l[i]? with
    | none => rw [q] at h; cases h
    | some z => rw [q] at h; cases h; exact .inl ⟨rfl, rfl⟩
  · rw [List.getElem?_set_ne e] at h
    exact .inr ⟨e, h⟩
theorem Rep.freeze {K : PySem.W.Frag} {B : Addr → Prop} {ρ : List Slot} {σ : L2.St} {H : Hp} {i : Nat} {o : O} (R : Rep K B ρ σ H) (h : ρ[i]? = some (.own false o)) :
    Rep K B (ρ.set i (.fro o.d)) σ H ∧ Sub (ρ.set i (.fro o.d)) ρ ∧ ∃ a, σ[i]? = some (some (.ref a)) ∧ RepV K (Av B (ρ.set i (.fro o.d)) σ) H (.ref a) o.d := by
  have sub : Sub (ρ.set i (.fro o.d)) ρ := ⟨fun j b' o' e => by
    rcases getElem?_set_of e with ⟨_, z⟩ | ⟨_, z⟩
    · cases z
    · exact ⟨o', z⟩, fun j o' e => ⟨o', by
    rw [List.getElem?_set_ne (fun z => by subst z; rw [h] at e; cases e)]; exact e⟩⟩
  obtain ⟨a, ea, q⟩ := R.slot i _ h
  have noA : ¬ Av B (ρ.set i (.fro o.d)) σ a := fun z => by
    rcases z with ⟨j, b', o', e1, e2⟩ | z
    · rcases getElem?_set_of e1 with ⟨_, z⟩ | ⟨n, z⟩
      · cases z
      · exact n (R.inj i j false o b' o' a h z ea e2)
    · exact R.dis a ⟨i, false, o, h, ea⟩ z
  have ha : ∀ x, Av B (ρ.set i (.fro o.d)) σ x → Av B ρ σ x ∨ H x = none := fun x z => .inl (z.elim (fun z => .inl (sub.own x z)) .inr)
  have rv : RepV K (Av B (ρ.set i (.fro o.d)) σ) H (.ref a) o.d := by
    cases o with
    | lst ds => obtain ⟨xs, e, r⟩ := q; exact .lst e noA (r.mono (S := fun _ => False) Kp.refl (fun _ z => z.elim) ha)
    | dct ds => obtain ⟨xs, e, r⟩ := q; exact .dct (.inl e) noA (r.mono (S := fun _ => False) Kp.refl (fun _ z => z.elim) ha)
    | obj c ds => obtain ⟨C, dx, xs, e, hc, r⟩ := q; exact .obj e noA hc (r.mono (S := fun _ => False) Kp.refl (fun _ z => z.elim) ha)
  refine ⟨⟨?_, fun j s e => ?_, fun j k b1 o1 b2 o2 x e1 e2 e3 e4 => ?_, R.btr, fun x z => R.dis x (sub.own x z), R.tabs⟩, sub, a, ea, rv⟩
  · rw [List.length_set]; exact R.len
  · rcases getElem?_set_of e with ⟨rfl, rfl⟩ | ⟨n, z⟩
    · exact ⟨_, ea, rv⟩
    · have w := R.slot j s z
      cases s with
      | nil => trivial
      | fro d => obtain ⟨v, e1, r⟩ := w; exact ⟨v, e1, r.mono (S := fun _ => False) Kp.refl (fun _ z => z.elim) ha⟩
      | own b' o' => obtain ⟨v, e1, r⟩ := w; exact ⟨v, e1, r.mono (S := fun _ => False) Kp.refl (fun _ z => z.elim) ha (fun z => z)⟩
      | var k => exact w
  · rcases getElem?_set_of e1 with ⟨_, z⟩ | ⟨_, z1⟩
    · cases z
    · rcases getElem?_set_of e2 with ⟨_, z⟩ | ⟨_, z2⟩
      · cases z
      · exact R.inj j k b1 o1 b2 o2 x z1 z2 e3 e4
def frz (ρ : List Slot) : Slot → (D → List Slot → Prop) → Prop
  | .nil, _ => False
  | .fro d, k => k d ρ
  | .own _ o, k => k o.d ρ
  | .var i, k => match ρ[i]? with
    | some (.own false o) => k o.d (ρ.set i (.fro o.d))
    | some (.fro d) => k d ρ
    | _ => False
def frzL (ρ : List Slot) : List Slot → (List D → List Slot → Prop) → Prop
  | [], k => k [] ρ
  | s :: ss, k => frz ρ s fun d ρ1 => frzL ρ1 ss fun ds ρ2 => k (d :: ds) ρ2
theorem Rep.fewer {K : PySem.W.Frag} {B B0 : Addr → Prop} {ρ : List Slot} {σ : L2.St} {H : Hp} (R : Rep K B ρ σ H) (h : ∀ a, B0 a → B a) : Rep K B0 ρ σ H := R.ex (Ex.refl H) fun a z => .inl (h a z)
theorem RepV.av {K : PySem.W.Frag} {A A' : Addr → Prop} {H : Hp} {v : V} {d : D} (r : RepV K A H v d) (h : ∀ a, A' a → A a) : RepV K A' H v d := r.mono (S := fun _ => False) Kp.refl (fun _ z => z.elim) fun a z => .inl (h a z)
theorem RepL.av {K : PySem.W.Frag} {A A' : Addr → Prop} {H : Hp} {v : List V} {d : List D} (r : RepL K A H v d) (h : ∀ a, A' a → A a) : RepL K A' H v d := r.mono (S := fun _ => False) Kp.refl (fun _ z => z.elim) fun a z => .inl (h a z)
theorem RepK.av {K : PySem.W.Frag} {A A' : Addr → Prop} {H : Hp} {v : List (Key × V)} {d : List (Key × D)} (r : RepK K A H v d) (h : ∀ a, A' a → A a) : RepK K A' H v d := r.mono (S := fun _ => False) Kp.refl (fun _ z => z.elim) fun a z => .inl (h a z)
theorem RepF.av {K : PySem.W.Frag} {A A' : Addr → Prop} {H : Hp} {v : List (Str × V)} {d : List (Str × D)} (r : RepF K A H v d) (h : ∀ a, A' a → A a) : RepF K A' H v d := r.mono (S := fun _ => False) Kp.refl (fun _ z => z.elim) fun a z => .inl (h a z)
theorem OOk.av {K : PySem.W.Frag} {A A' : Addr → Prop} {H : Hp} {a : Addr} {o : O} (r : OOk K A H a o) (h : ∀ a, A' a → A a) : OOk K A' H a o := r.mono (S := fun _ => False) Kp.refl (fun _ z => z.elim) (fun a z => .inl (h a z)) fun z => z
section
variable {K : PySem.W.Frag} {H0 : Hp} {B B0 : Addr → Prop} {ρ : List Slot} {σ : L2.St} {H : Hp}
theorem frz_ok {s : Slot} {v : V} {k : D → List Slot → Prop} (R : Rep K B ρ σ H) (p : Pend K H0 B ρ σ H s v) (h0 : ∀ a, B0 a → B a) (ht : ∀ a, B0 a → H0 a ≠ none) (h : frz ρ s k) :
    ∃ d ρ', k d ρ' ∧ Rep K B ρ' σ H ∧ Sub ρ' ρ ∧ RepV K (Av B0 ρ' σ) H v d := by
  cases s with
  | nil => exact h.elim
  | fro d => exact ⟨d, ρ, h, R, Sub.refl ρ, RepV.av p fun a z => z.elim .inl fun z => .inr (h0 a z)⟩
  | own b o =>
    obtain ⟨a, rfl, n, n0, q⟩ := p
    refine ⟨o.d, ρ, h, R, Sub.refl ρ, ?_⟩
    have noA : ¬ Av B0 ρ σ a := fun z => z.elim (fun z => R.dis a z n) fun z => ht a z n0
    have hh : ∀ x, Av B0 ρ σ x → Av B ρ σ x := fun x z => z.elim .inl fun z => .inr (h0 x z)
    cases o with
    | lst ds => obtain ⟨xs, e, r⟩ := q; exact .lst e noA (r.av hh)
    | dct ds => obtain ⟨xs, e, r⟩ := q; exact .dct (.inl e) noA (r.av hh)
    | obj c ds => obtain ⟨C, dx, xs, e, hc, r⟩ := q; exact .obj e noA hc (r.av hh)
  | var i =>
    have p' : σ[i]? = some (some v) := p
    have h : (match ρ[i]? with
      | some (.own false o) => k o.d (ρ.set i (.fro o.d))
      | some (.fro d) => k d ρ
      | _ => False) := h
    cases e : ρ[i]? with
    | none => rw [e] at h; exact h.elim
    | some t =>
      rw [e] at h
      cases t with
      | nil => exact h.elim
      | fro d =>
        obtain ⟨v', e1, r⟩ := R.slot i _ e
        rw [p'] at e1; cases e1
        exact ⟨d, ρ, h, R, Sub.refl ρ, r.av fun a z => z.elim .inl fun z => .inr (h0 a z)⟩
      | own b o =>
        cases b with
        | true => exact h.elim
        | false =>
          obtain ⟨R', sub, a, ea, rv⟩ := R.freeze e
          rw [p'] at ea; cases ea
          exact ⟨_, _, h, R', sub, rv.av fun a z => z.elim .inl fun z => .inr (h0 a z)⟩
      | var j => exact h.elim
def PendL (K : PySem.W.Frag) (H0 : Hp) (B : Addr → Prop) (ρ : List Slot) (σ : L2.St) (H : Hp) : List Slot → List V → Prop
  | [], [] => True
  | s :: ss, v :: vs => Pend K H0 B ρ σ H s v ∧ PendL K H0 B ρ σ H ss vs
  | _, _ => False
theorem PendL.step {B' : Addr → Prop} {ρ' : List Slot} {H' : Hp} (R : Rep K B ρ σ H) (k : Kp (Own ρ σ) H H') (hs : Sub ρ' ρ) (hb : ∀ a, B a → B' a) (hb' : ∀ a, B' a → B a ∨ H a = none) :
    ∀ {ss : List Slot} {vs : List V}, PendL K H0 B ρ σ H ss vs → PendL K H0 B' ρ' σ H' ss vs
  | [], [], _ => trivial
  | _ :: _, _ :: _, h => ⟨h.1.step R k hs hb hb', PendL.step R k hs hb hb' h.2⟩
  | [], _ :: _, h => h.elim
  | _ :: _, [], h => h.elim
theorem PendL.start {H1 : Hp} {S : Addr → Prop} (k : Kp S H0 H1) : ∀ {ss : List Slot} {vs : List V}, PendL K H1 B ρ σ H ss vs → PendL K H0 B ρ σ H ss vs
  | [], [], _ => trivial
  | _ :: _, _ :: _, h => ⟨h.1.start k, PendL.start k h.2⟩
  | [], _ :: _, h => h.elim
  | _ :: _, [], h => h.elim
theorem frzL_ok (h0 : ∀ a, B0 a → B a) (ht : ∀ a, B0 a → H0 a ≠ none) : ∀ {ss : List Slot} {vs : List V} {ρ : List Slot} {k : List D → List Slot → Prop}, Rep K B ρ σ H → PendL K H0 B ρ σ H ss vs → frzL ρ ss k →
    ∃ ds ρ', k ds ρ' ∧ Rep K B ρ' σ H ∧ Sub ρ' ρ ∧ RepL K (Av B0 ρ' σ) H vs ds
  | [], [], ρ, k, R, _, h => ⟨[], ρ, h, R, Sub.refl ρ, .nil⟩
  | s :: ss, v :: vs, ρ, k, R, p, h => by
    obtain ⟨d, ρ1, h1, R1, s1, r1⟩ := frz_ok R p.1 h0 ht h
    obtain ⟨ds, ρ2, h2, R2, s2, r2⟩ := frzL_ok h0 ht R1 (p.2.step R Kp.refl s1 (fun _ z => z) fun _ z => .inl z) h1
    exact ⟨d :: ds, ρ2, h2, R2, s1.trans s2, .cons (r1.av fun a z => z.elim (fun z => .inl (s2.own a z)) .inr) r2⟩
  | [], _ :: _, _, _, _, p, _ => p.elim
  | _ :: _, [], _, _, _, p, _ => p.elim
end
def New (K : PySem.W.Frag) (A : Addr → Prop) (H H' : Hp) : Slot → V → Prop
  | .fro d, v => RepV K A H' v d
  | .own _ o, v => ∃ a, v = .ref a ∧ H a = none ∧ OOk K (fun x => A x ∨ x = a) H' a o
  | _, _ => False
theorem New.post {K : PySem.W.Frag} {B B2 S : Addr → Prop} {ρ2 : List Slot} {σ : L2.St} {H H2 H' : Hp} {s : Slot} {v : V} (n : New K (Av B2 ρ2 σ) H2 H' s v) (R : Rep K B2 ρ2 σ H2) (hb : ∀ a, B a → B2 a) (k : Kp S H H2) (e : Ex H2 H') :
    Post K B ρ2 σ H H' s v := by
  have hh : ∀ x, Av B ρ2 σ x → Av B2 ρ2 σ x := fun x z => z.elim .inl fun z => .inr (hb x z)
  cases s with
  | nil => exact n.elim
  | fro d => exact ⟨R.ex e fun a z => .inl (hb a z), RepV.av n hh⟩
  | own b o =>
    obtain ⟨a, rfl, na, q⟩ := n
    refine ⟨a, rfl, k.back na, fun z => R.btr a (hb a z) na, R.ex e fun x z => z.elim (fun z => .inl (hb x z)) fun z => .inr ?_, q.av fun x z => ?_⟩
    · subst z; exact ⟨na, q.trk⟩
    · rcases z with z | z | z
      · exact .inl (.inl z)
      · exact .inl (.inr (hb x z))
      · exact .inr z
  | var i => exact n.elim
def wArgs : List WE → List Slot → (List Slot → List Slot → Prop) → Prop
  | [], ρ, k => k [] ρ
  | w :: ws, ρ, k => w ρ fun s ρ1 => wArgs ws ρ1 fun ss ρ2 => k (s :: ss) ρ2
def taOf (K : PySem.W.Frag) (ws : List WE) : TA := fun σ H Q => ∃ (B : Addr → Prop) (ρ : List Slot) (Q' : List Slot → List Slot → Prop), Rep K B ρ σ H ∧ wArgs ws ρ Q' ∧
  ∀ ss vs ρ' (B' : Addr → Prop) H', (∀ a, B a → B' a) → (∀ a, B' a → B a ∨ H a = none) → Rep K B' ρ' σ H' → PendL K H B' ρ' σ H' ss vs → Sub ρ' ρ → Kp (Own ρ σ) H H' → Q' ss ρ' → Q vs H'
def MA (X : Cx) (es : List Expr) (ws : List WE) : Prop := PA X es (taOf X.K ws)
theorem ma_nil {X : Cx} : MA X [] [] := PA_weak pa_nil fun σ H Q ⟨B, ρ, Q', R, hw, hq⟩ =>
  hq [] [] ρ B H (fun _ z => z) (fun _ z => .inl z) R trivial (Sub.refl ρ) Kp.refl hw
theorem ma_cons {X : Cx} {e : Expr} {es : List Expr} {w : WE} {ws : List WE} (he : ME X e w) (hr : MA X es ws) (hs : starEach (e :: es) X.env = (false, eval e X.env) :: starEach es X.env := by rfl) : MA X (e :: es) (w :: ws) :=
  PA_weak (pa_cons he hr hs) fun σ H Q ⟨B, ρ, Q', R, hw, hq⟩ => by
    refine ⟨B, ρ, _, R, hw, fun s v ρ1 H1 post sub kp hw1 => ?_⟩
    obtain ⟨B1, b1, b1', R1, P1⟩ := post.pend
    refine ⟨B1, ρ1, _, R1, hw1, fun ss vs ρ2 B2 H2 b2 b2' R2 P2 sub2 kp2 q => ?_⟩
    refine hq (s :: ss) (v :: vs) ρ2 B2 H2 (fun a z => b2 a (b1 a z)) (fun a z => ?_) R2 ⟨P1.step R1 kp2 sub2 b2 b2', P2.start kp⟩ (sub.trans sub2) (kp.trans kp2 fun a z => sub.own a z) q
    rcases b2' a z with z | z
    · exact b1' a z
    · exact .inr (kp.back z)
def lookL (ρ : List Slot) : List Slot → Option (List D)
  | [] => some []
  | s :: ss => match lookD ρ s with
    | none => none
    | some d => match lookL ρ ss with
      | none => none
      | some ds => some (d :: ds)
def SeesL (K : PySem.W.Frag) (A : Addr → Prop) (H : Hp) : List V → List D → Prop
  | [], [] => True
  | v :: vs, d :: ds => Sees K A H v d ∧ SeesL K A H vs ds
  | _, _ => False
theorem PendL.sees {K : PySem.W.Frag} {H0 : Hp} {B : Addr → Prop} {ρ : List Slot} {σ : L2.St} {H : Hp} (R : Rep K B ρ σ H) : ∀ {ss : List Slot} {vs : List V} {ds : List D}, PendL K H0 B ρ σ H ss vs → lookL ρ ss = some ds → SeesL K (Av B ρ σ) H vs ds
  | [], [], ds, _, e => by cases e; trivial
  | s :: ss, v :: vs, ds, p, e => by
    unfold lookL at e
    cases e1 : lookD ρ s with
    | none => rw [e1] at e; cases e
    | some d =>
      rw [e1] at e
      cases e2 : lookL ρ ss with
      | none => rw [e2] at e; cases e
      | some ds' =>
        rw [e2] at e
        cases e
        exact ⟨p.1.sees R e1, PendL.sees R p.2 e2⟩
  | [], _ :: _, _, p, _ => p.elim
  | _ :: _, [], _, p, _ => p.elim
def withL (ρ : List Slot) (ss : List Slot) (k : List D → Prop) : Prop := match lookL ρ ss with
  | some ds => k ds
  | none => False
def rC (K : PySem.W.Frag) (g : List D → (Slot → Prop) → Prop) : List V → Hp → VK → Prop := fun vs H Q => ∃ (A : Addr → Prop) (ds : List D) (k : Slot → Prop), SeesL K A H vs ds ∧ (∀ a, A a → H a ≠ none) ∧ g ds k ∧
  ∀ s v H', Ex H H' → New K A H H' s v → k s → Q v H'
def CallD (X : Cx) (f : Value) (g : List D → (Slot → Prop) → Prop) : Prop := CallR X f (rC X.K g)
def wCB (g : List D → (Slot → Prop) → Prop) (ws : List WE) : WE := fun ρ Q => wArgs ws ρ fun ss ρ' => withL ρ' ss fun ds => g ds fun s => Q s ρ'
theorem wCB_ok {K : PySem.W.Frag} {g : List D → (Slot → Prop) → Prop} {ws : List WE} {B : Addr → Prop} {ρ : List Slot} {σ : L2.St} {H : Hp} {Q' : Slot → List Slot → Prop} {Q : VK} (R : Rep K B ρ σ H) (hw : wCB g ws ρ Q')
    (hq : ∀ s v ρ' H', Post K B ρ' σ H H' s v → Sub ρ' ρ → Kp (Own ρ σ) H H' → Q' s ρ' → Q v H') : taOf K ws σ H fun vs H1 => rC K g vs H1 Q := by
  refine ⟨B, ρ, _, R, hw, fun ss vs ρ2 B2 H2 b2 b2' R2 P2 sub kp q => ?_⟩
  unfold withL at q
  cases e : lookL ρ2 ss with
  | none => rw [e] at q; exact q.elim
  | some ds =>
    rw [e] at q
    exact ⟨_, ds, _, P2.sees R2 e, fun a z => R2.av_trk z, q, fun s v H' ex n h => hq s v ρ2 H' (n.post R2 b2 kp ex) sub (kp.trans ex.kp fun _ z => z) h⟩
section
variable {X : Cx} {x : Str} {p pos : Pos} {e : Expr} {es : List Expr} {ws : List WE} {id T : String} {g : List D → (Slot → Prop) → Prop}
theorem me_callB (hc : CallD X (.builtin id) g) (hg : Gl X x) (hm : X.mg x = none) (hv : bootBuiltins x = some (.builtin id)) (ha : MA X (e :: es) ws) (hn : x ≠ "__name__" := by decide) (hdb : (x == ("__debug__" : Str)) = false := by decide)
    (he : starEach (e :: es) X.env = (false, eval e X.env) :: starEach es X.env := by rfl) (hpl : (backTo pos (starEach es X.env)).any (·.1) = false := by rfl) : ME X (.Call (.Name x p) (e :: es) [] pos) (wCB g ws) :=
  me_of (pe_callB hc hg hm hv ha hn hdb he hpl) fun B ρ σ H Q' Q R hw hq => wCB_ok R hw hq
theorem me_callT (hc : CallD X (.type T) g) (hg : Gl X x) (hm : X.mg x = none) (hv : bootBuiltins x = some (.type T)) (ha : MA X (e :: es) ws) (hn : x ≠ "__name__" := by decide) (hdb : (x == ("__debug__" : Str)) = false := by decide)
    (he : starEach (e :: es) X.env = (false, eval e X.env) :: starEach es X.env := by rfl) (hpl : (backTo pos (starEach es X.env)).any (·.1) = false := by rfl) : ME X (.Call (.Name x p) (e :: es) [] pos) (wCB g ws) :=
  me_of (pe_callTy hc hg hm hv ha hn hdb he hpl) fun B ρ σ H Q' Q R hw hq => wCB_ok R hw hq
end
theorem seq2 {K : PySem.W.Frag} {w1 w2 : WE} {B : Addr → Prop} {ρ : List Slot} {σ : L2.St} {H : Hp} {P : Slot → Slot → List Slot → Prop} {R : V → V → Hp → Prop} (R0 : Rep K B ρ σ H)
    (hw : w1 ρ fun s1 ρ1 => w2 ρ1 fun s2 ρ2 => P s1 s2 ρ2)
    (k : ∀ s1 s2 x y ρ2 (B2 : Addr → Prop) H2, (∀ a, B a → B2 a) → (∀ a, B2 a → B a ∨ H a = none) → Rep K B2 ρ2 σ H2 → Pend K H B2 ρ2 σ H2 s1 x → Pend K H B2 ρ2 σ H2 s2 y → Sub ρ2 ρ → Kp (Own ρ σ) H H2 → P s1 s2 ρ2 → R x y H2) :
    tOf K w1 σ H fun x H1 => tOf K w2 σ H1 fun y H2 => R x y H2 := by
  refine ⟨B, ρ, _, R0, hw, fun s1 x ρ1 H1 post sub kp hw1 => ?_⟩
  obtain ⟨B1, b1, b1', R1, P1⟩ := post.pend
  refine ⟨B1, ρ1, _, R1, hw1, fun s2 y ρ2 H2 post2 sub2 kp2 q => ?_⟩
  obtain ⟨B2, b2, b2', R2, P2⟩ := post2.pend
  refine k s1 s2 x y ρ2 B2 H2 (fun a z => b2 a (b1 a z)) (fun a z => ?_) R2 (P1.step R1 kp2 sub2 b2 b2') (P2.start kp) (sub.trans sub2) (kp.trans kp2 fun a z => sub.own a z) q
  rcases b2' a z with z | z
  · exact b1' a z
  · exact .inr (kp.back z)
def with2 (ρ : List Slot) (s1 s2 : Slot) (k : D → D → Prop) : Prop := match lookD ρ s1 with
  | some a => match lookD ρ s2 with
    | some b => k a b
    | none => False
  | none => False
theorem with2_get {ρ : List Slot} {s1 s2 : Slot} {k : D → D → Prop} (h : with2 ρ s1 s2 k) : ∃ a b, lookD ρ s1 = some a ∧ lookD ρ s2 = some b ∧ k a b := by
  unfold with2 at h
  cases e1 : lookD ρ s1 with
  | none => rw [e1] at h; exact h.elim
  | some a =>
    rw [e1] at h
    cases e2 : lookD ρ s2 with
    | none => rw [e2] at h; exact h.elim
    | some b => rw [e2] at h; exact ⟨a, b, rfl, rfl, h⟩
def rD (K : PySem.W.Frag) (g : D → D → (Slot → Prop) → Prop) : R2 := fun x y H Q => ∃ (A : Addr → Prop) (d e : D) (k : Slot → Prop), Sees K A H x d ∧ Sees K A H y e ∧ (∀ a, A a → H a ≠ none) ∧ g d e k ∧
  ∀ s v H', Ex H H' → New K A H H' s v → k s → Q v H'
def OpD (X : Cx) (f : Value → Value → Sem Value) (g : D → D → (Slot → Prop) → Prop) : Prop := OpR X f (rD X.K g)
def wOp (g : D → D → (Slot → Prop) → Prop) (w1 w2 : WE) : WE := fun ρ Q => w1 ρ fun s1 ρ1 => w2 ρ1 fun s2 ρ2 => with2 ρ2 s1 s2 fun a b => g a b fun s => Q s ρ2
theorem wOp_ok {K : PySem.W.Frag} {g : D → D → (Slot → Prop) → Prop} {w1 w2 : WE} {B : Addr → Prop} {ρ : List Slot} {σ : L2.St} {H : Hp} {Q' : Slot → List Slot → Prop} {Q : VK} (R : Rep K B ρ σ H) (hw : wOp g w1 w2 ρ Q')
    (hq : ∀ s v ρ' H', Post K B ρ' σ H H' s v → Sub ρ' ρ → Kp (Own ρ σ) H H' → Q' s ρ' → Q v H') : tOp (rD K g) (tOf K w1) (tOf K w2) σ H Q := by
  refine seq2 R hw fun s1 s2 x y ρ2 B2 H2 b2 b2' R2 P1 P2 sub kp q => ?_
  obtain ⟨a, b, e1, e2, q⟩ := with2_get q
  exact ⟨_, a, b, _, P1.sees R2 e1, P2.sees R2 e2, fun a z => R2.av_trk z, q, fun s v H' ex n h => hq s v ρ2 H' (n.post R2 b2 kp ex) sub (kp.trans ex.kp fun _ z => z) h⟩
section
variable {X : Cx} {a b c : Expr} {pos : Pos} {w1 w2 w3 : WE} {g g' : D → D → (Slot → Prop) → Prop}
theorem me_op {op : Operator} (ho : OpD X (binaryOp op) g) (ha : ME X a w1) (hb : ME X b w2) : ME X (.BinOp a op b pos) (wOp g w1 w2) :=
  me_of (pe_op ho ha hb) fun B ρ σ H Q' Q R hw hq => wOp_ok R hw hq
theorem me_cmp {op : CmpOp} (ho : OpD X (compareOp op) g) (ha : ME X a w1) (hb : ME X b w2) (hm : behindInMarks op b = false) : ME X (.Compare a [op] [b] pos) (wOp g w1 w2) :=
  me_of (pe_cmpR ho ha hb hm) fun B ρ σ H Q' Q R hw hq => wOp_ok R hw hq
def wB (w : WE) : WT := fun ρ Q => w ρ fun s ρ' => match s with
  | .fro (.bl b) => Q b ρ'
  | _ => False
theorem wB_ok {K : PySem.W.Frag} {w : WE} {B : Addr → Prop} {ρ : List Slot} {σ : L2.St} {H : Hp} {Q' : Bool → List Slot → Prop} {Q : Bool → Hp → Prop} (R : Rep K B ρ σ H) (hw : wB w ρ Q')
    (hq : ∀ b ρ' H', Rep K B ρ' σ H' → Sub ρ' ρ → Kp (Own ρ σ) H H' → Q' b ρ' → Q b H') : tOf K w σ H fun x H1 => ∃ k, x = .bl k ∧ Q k H1 := by
  refine ⟨B, ρ, _, R, hw, fun s v ρ' H' post sub kp q => ?_⟩
  cases s with
  | fro d =>
    cases d with
    | bl b => obtain ⟨R', r⟩ := post; cases r; exact ⟨b, rfl, hq b ρ' H' R' sub kp q⟩
    | _ => exact q.elim
  | _ => exact q.elim
theorem mt_cmp {op : CmpOp} (ho : OpD X (compareOp op) g) (ha : ME X a w1) (hb : ME X b w2) (hm : behindInMarks op b = false) : MT X (.Compare a [op] [b] pos) (wB (wOp g w1 w2)) :=
  mt_of (pt_cmpR ho ha hb hm) fun B ρ σ H Q' Q R hw hq => by
    refine wOp_ok R hw fun s v ρ' H' post sub kp q => ?_
    cases s with
    | fro d =>
      cases d with
      | bl b => obtain ⟨R', r⟩ := post; cases r; exact ⟨b, rfl, hq b ρ' H' R' sub kp q⟩
      | _ => exact q.elim
    | _ => exact q.elim
theorem mt_val (h : ME X a w1) (he : ∀ whole, isTrue a X.env whole = (do let v ← whole; standAt a.pos; holding [v] (truthy v)) := by intro _; rfl) : MT X a (wB w1) :=
  mt_of (pt_val h he) fun B ρ σ H Q' Q R hw hq => wB_ok R hw hq
def wNot (w : WT) : WT := fun ρ Q => w ρ fun b ρ' => Q (!b) ρ'
def wAnd (w1 w2 : WT) : WT := fun ρ Q => w1 ρ fun b ρ' => if b = true then w2 ρ' Q else Q false ρ'
def wOr (w1 w2 : WT) : WT := fun ρ Q => w1 ρ fun b ρ' => if b = true then Q true ρ' else w2 ρ' Q
variable {t1 t2 : WT} {rest : List Expr}
theorem mt_not (h : MT X a t1) : MT X (.UnaryOp .Not a pos) (wNot t1) :=
  mt_of (pt_not h) fun B ρ σ H Q' Q R hw hq => ⟨B, ρ, _, R, hw, fun b ρ' H' R' sub kp q => hq _ ρ' H' R' sub kp q⟩
theorem mw_and1 (h : MT X a t1) : MW X (.BoolOp .And [a] pos) t1 := pw_and1 h
theorem mw_or1 (h : MT X a t1) : MW X (.BoolOp .Or [a] pos) t1 := pw_or1 h
theorem mw_and (ha : MT X a t1) (hb : MW X (.BoolOp .And (b :: rest) pos) t2) : MW X (.BoolOp .And (a :: b :: rest) pos) (wAnd t1 t2) :=
  PW_weak (pw_and ha hb) fun σ H Q ⟨B, ρ, Q', R, hw, hq⟩ => by
    refine ⟨B, ρ, _, R, hw, fun b ρ' H' R' sub kp q => ?_⟩
    cases b with
    | true => exact ⟨B, ρ', Q', R', q, fun b ρ2 H2 R2 sub2 kp2 q2 => hq b ρ2 H2 R2 (sub.trans sub2) (kp.trans kp2 fun a z => sub.own a z) q2⟩
    | false => exact hq false ρ' H' R' sub kp q
theorem mw_or (ha : MT X a t1) (hb : MW X (.BoolOp .Or (b :: rest) pos) t2) : MW X (.BoolOp .Or (a :: b :: rest) pos) (wOr t1 t2) :=
  PW_weak (pw_or ha hb) fun σ H Q ⟨B, ρ, Q', R, hw, hq⟩ => by
    refine ⟨B, ρ, _, R, hw, fun b ρ' H' R' sub kp q => ?_⟩
    cases b with
    | false => exact ⟨B, ρ', Q', R', q, fun b ρ2 H2 R2 sub2 kp2 q2 => hq b ρ2 H2 R2 (sub.trans sub2) (kp.trans kp2 fun a z => sub.own a z) q2⟩
    | true => exact hq true ρ' H' R' sub kp q
theorem mw_pt {e : Expr} {t : WT} (h : MW X e t) : MT X e t := PW.pt h
def wAndV (w1 w2 : WE) : WE := fun ρ Q => wB w1 ρ fun b ρ' => if b = true then w2 ρ' Q else Q (.fro (.bl false)) ρ'
def wOrV (w1 w2 : WE) : WE := fun ρ Q => wB w1 ρ fun b ρ' => if b = true then Q (.fro (.bl true)) ρ' else w2 ρ' Q
def wNotV (w1 : WE) : WE := fun ρ Q => wB w1 ρ fun b ρ' => Q (.fro (.bl (!b))) ρ'
theorem Post.up {K : PySem.W.Frag} {B S : Addr → Prop} {ρ' : List Slot} {σ : L2.St} {H H1 H' : Hp} {s : Slot} {v : V} (h : Post K B ρ' σ H1 H' s v) (k : Kp S H H1) : Post K B ρ' σ H H' s v := by
  cases s with
  | nil => exact h
  | fro d => exact h
  | own b o => obtain ⟨a, rfl, n, nb, R, q⟩ := h; exact ⟨a, rfl, k.back n, nb, R, q⟩
  | var i => exact h
theorem me_one {op} (h : ME X a w1) : ME X (.BoolOp op [a] pos) w1 := pe_one h
theorem me_and (ha : ME X a w1) (hb : ME X (.BoolOp .And (b :: rest) pos) w2) : ME X (.BoolOp .And (a :: b :: rest) pos) (wAndV w1 w2) :=
  me_of (pe_and ha hb) fun B ρ σ H Q' Q R hw hq => by
    refine wB_ok R hw fun b ρ' H' R' sub kp q => ?_
    cases b with
    | true => exact ⟨B, ρ', Q', R', q, fun s v ρ2 H2 post sub2 kp2 q2 => hq s v ρ2 H2 (post.up kp) (sub.trans sub2) (kp.trans kp2 fun a z => sub.own a z) q2⟩
    | false => exact hq _ _ ρ' H' (postF R' (.bl false)) sub kp q
theorem me_or (ha : ME X a w1) (hb : ME X (.BoolOp .Or (b :: rest) pos) w2) : ME X (.BoolOp .Or (a :: b :: rest) pos) (wOrV w1 w2) :=
  me_of (pe_or ha hb) fun B ρ σ H Q' Q R hw hq => by
    refine wB_ok R hw fun b ρ' H' R' sub kp q => ?_
    cases b with
    | false => exact ⟨B, ρ', Q', R', q, fun s v ρ2 H2 post sub2 kp2 q2 => hq s v ρ2 H2 (post.up kp) (sub.trans sub2) (kp.trans kp2 fun a z => sub.own a z) q2⟩
    | true => exact hq _ _ ρ' H' (postF R' (.bl true)) sub kp q
theorem me_not (ha : ME X a w1) : ME X (.UnaryOp .Not a pos) (wNotV w1) :=
  me_of (pe_not ha) fun B ρ σ H Q' Q R hw hq => wB_ok R hw fun b ρ' H' R' sub kp q => hq _ _ ρ' H' (postF R' (.bl _)) sub kp q
def wIf (t : WT) (w1 w2 : WE) : WE := fun ρ Q => t ρ fun b ρ' => if b = true then w1 ρ' Q else w2 ρ' Q
theorem me_if {c : Expr} (hc : MT X c t1) (ha : ME X a w1) (hb : ME X b w2) : ME X (.IfExp c a b pos) (wIf t1 w1 w2) :=
  me_of (pe_ifExp hc ha hb) fun B ρ σ H Q' Q R hw hq => by
    refine ⟨B, ρ, _, R, hw, fun b ρ' H' R' sub kp q => ?_⟩
    cases b with
    | true => exact ⟨B, ρ', Q', R', q, fun s v ρ2 H2 post sub2 kp2 q2 => hq s v ρ2 H2 (post.up kp) (sub.trans sub2) (kp.trans kp2 fun a z => sub.own a z) q2⟩
    | false => exact ⟨B, ρ', Q', R', q, fun s v ρ2 H2 post sub2 kp2 q2 => hq s v ρ2 H2 (post.up kp) (sub.trans sub2) (kp.trans kp2 fun a z => sub.own a z) q2⟩
def wVar (i : Nat) : WE := fun ρ Q => match ρ[i]? with
  | some (.fro d) => Q (.fro d) ρ
  | some (.own _ _) => Q (.var i) ρ
  | _ => False
def wC (d : D) : WE := fun ρ Q => Q (.fro d) ρ
theorem me_var {i : Nat} {e : Expr} (h : PE X e (tVar i)) : ME X e (wVar i) := me_of h fun B ρ σ H Q' Q R hw hq => by
  unfold wVar at hw
  cases e : ρ[i]? with
  | none => rw [e] at hw; exact hw.elim
  | some s =>
    rw [e] at hw
    cases s with
    | nil => exact hw.elim
    | fro d => obtain ⟨v, e1, r⟩ := R.slot i _ e; exact ⟨v, e1, hq _ _ ρ H (postF R r) (Sub.refl ρ) Kp.refl hw⟩
    | own b o => obtain ⟨a, e1, r⟩ := R.slot i _ e; exact ⟨_, e1, hq _ _ ρ H (postV R e1) (Sub.refl ρ) Kp.refl hw⟩
    | var j => exact hw.elim
theorem me_c {v : V} {d : D} (h : PE X a (tC v)) (r : ∀ A H, RepV X.K A H v d) : ME X a (wC d) := me_of h fun B ρ σ H Q' Q R hw hq => hq _ _ ρ H (postF R (r _ _)) (Sub.refl ρ) Kp.refl hw
theorem me_int {i : Int} {j : Nat} : ME X (.Constant (.int i) j pos) (wC (.int i)) := me_c pe_int fun _ _ => .int i
theorem me_bl {i : Bool} {j : Nat} : ME X (.Constant (.bool i) j pos) (wC (.bl i)) := me_c pe_bl fun _ _ => .bl i
theorem me_str {i : Str} {j : Nat} : ME X (.Constant (.str i) j pos) (wC (.str i)) := me_c pe_str fun _ _ => .str i
theorem me_non {j : Nat} : ME X (.Constant .none j pos) (wC .non) := me_c pe_non fun _ _ => .non
def wTup (ws : List WE) : WE := fun ρ Q => wArgs ws ρ fun ss ρ' => frzL ρ' ss fun ds ρ2 => ds.length ≤ sizeLine ∧ Q (.fro (.tup ds)) ρ2
def wLst (ws : List WE) : WE := fun ρ Q => wArgs ws ρ fun ss ρ' => frzL ρ' ss fun ds ρ2 => ds.length ≤ sizeLine ∧ Q (.own false (.lst ds)) ρ2
theorem args_frz {K : PySem.W.Frag} {ws : List WE} {B : Addr → Prop} {ρ : List Slot} {σ : L2.St} {H : Hp} {P : List D → List Slot → Prop} {Q : List V → Hp → Prop} (R : Rep K B ρ σ H) (hw : wArgs ws ρ fun ss ρ' => frzL ρ' ss P)
    (hq : ∀ ds vs ρ' H', Rep K B ρ' σ H' → RepL K (Av B ρ' σ) H' vs ds → Sub ρ' ρ → Kp (Own ρ σ) H H' → P ds ρ' → Q vs H') : taOf K ws σ H Q := by
  refine ⟨B, ρ, _, R, hw, fun ss vs ρ2 B2 H2 b2 b2' R2 P2 sub kp q => ?_⟩
  obtain ⟨ds, ρ3, h, R3, s3, r3⟩ := frzL_ok (B0 := B) b2 R.btr R2 P2 q
  exact hq ds vs ρ3 H2 (R3.fewer b2) r3 (sub.trans s3) kp h
theorem me_tup {es : List Expr} {ws : List WE} {x1} (h : MA X es ws) : ME X (.Tuple es x1 pos) (wTup ws) := me_of (pe_tup h) fun B ρ σ H Q' Q R hw hq => by
  refine args_frz R hw fun ds vs ρ' H' R' r sub kp ⟨z, q⟩ => ⟨by rw [r.length]; exact z, fun p np => ?_⟩
  have e := Ex.new (o := HO.tup vs) np
  exact hq _ _ ρ' _ (postF (R'.ex e fun _ z => .inl z) (.tup (SqT.of upd_same) (r.mono (S := fun _ => False) e.kp (fun _ z => z.elim) fun _ z => .inl z))) sub (kp.trans e.kp fun _ z => z) q
theorem me_lst {es : List Expr} {ws : List WE} (h : MA X es ws) : ME X (.List es pos) (wLst ws) := me_of (pe_lst h) fun B ρ σ H Q' Q R hw hq => by
  refine args_frz R hw fun ds vs ρ' H' R' r sub kp ⟨z, q⟩ => ⟨by rw [r.length]; exact z, fun p np => ?_⟩
  have e := Ex.new (o := HO.lst vs) np
  refine hq _ _ ρ' _ (postO (b := false) (o := .lst ds) (kp.back np) (fun z => R'.btr p z np) (R'.ex e fun x z => z.elim .inl fun z => .inr ?_) ⟨vs, upd_same, r.mono (S := fun _ => False) e.kp (fun _ z => z.elim) fun x z => ?_⟩) sub (kp.trans e.kp fun _ z => z) q
  · subst z; exact ⟨np, by rw [upd_same]; exact nofun⟩
  · rcases z with z | z | z
    · exact .inl (.inl z)
    · exact .inl (.inr z)
    · subst z; exact .inr np
end
end Dl
namespace Dl
open PySem L2
variable [TabN]
structure DEnds where
  nx : List Slot → Prop
  rt : Slot → List Slot → Prop
  bk : List Slot → Prop
  ct : List Slot → Prop
abbrev WS := DEnds → List Slot → Prop
structure Fr (H0 : Hp) (L : Nat → Addr → Prop) (ρ : List Slot) (σ : L2.St) (H : Hp) : Prop where
  keep : ∀ a o, H0 a = some o → (∀ i, ¬ L i a) → ∀ (_ : ¬ isTbl o := by exact fun z => z), H a = some o
  imm : ∀ a o, H0 a = some o → isImm o → H a = some o
  trk : ∀ a, H0 a ≠ none → H a ≠ none
  ownf : ∀ (i : Nat) (o : O) (a : Addr), ρ[i]? = some (.own false o) → σ[i]? = some (some (.ref a)) → H0 a = none
  lent : ∀ (i : Nat) (a : Addr), L i a ↔ (∃ o : O, ρ[i]? = some (.own true o)) ∧ σ[i]? = some (some (.ref a))
theorem Fr.step {H0 : Hp} {L : Nat → Addr → Prop} {ρ ρ' : List Slot} {σ : L2.St} {H H' : Hp} (F : Fr H0 L ρ σ H) (k : Kp (Own ρ σ) H H') (s : Sub ρ' ρ) : Fr H0 L ρ' σ H' where
  keep := fun a o e n t => k.keep a o (F.keep a o e n t) (fun ⟨i, b, o', e1, e2⟩ => by
    cases b with
    | true => exact n i ((F.lent i a).2 ⟨⟨o', e1⟩, e2⟩)
    | false => have z := F.ownf i o' a e1 e2; rw [e] at z; cases z) t
  imm := fun a o e i => k.imm a o (F.imm a o e i) i
  trk := fun a e => k.trk a (F.trk a e)
  ownf := fun i o a e1 e2 => by
    obtain ⟨o', h⟩ := s.old i false o e1
    exact F.ownf i o' a h e2
  lent := fun i a => by
    rw [F.lent i a]
    exact ⟨fun ⟨⟨o, h⟩, e⟩ => ⟨s.lent i o h, e⟩, fun ⟨⟨o, h⟩, e⟩ => ⟨s.old i true o h, e⟩⟩
structure EndsOk (K : PySem.W.Frag) (B : Addr → Prop) (H0 : Hp) (L : Nat → Addr → Prop) (KD : DEnds) (D : Ends) : Prop where
  nx : ∀ ρ σ H, Rep K B ρ σ H → Fr H0 L ρ σ H → KD.nx ρ → D.nx σ H
  bk : ∀ ρ σ H, Rep K B ρ σ H → Fr H0 L ρ σ H → KD.bk ρ → D.bk σ H
  ct : ∀ ρ σ H, Rep K B ρ σ H → Fr H0 L ρ σ H → KD.ct ρ → D.ct σ H
  rt : ∀ s v ρ σ H1 H, Post K B ρ σ H1 H s v → Fr H0 L ρ σ H → (∀ a, H0 a ≠ none → H1 a ≠ none) → KD.rt s ρ → D.rt v H
def sOf (K : PySem.W.Frag) (w : WS) : TS := fun D σ H => ∃ (B : Addr → Prop) (H0 : Hp) (L : Nat → Addr → Prop) (ρ : List Slot) (KD : DEnds), Rep K B ρ σ H ∧ Fr H0 L ρ σ H ∧ w KD ρ ∧ EndsOk K B H0 L KD D
def MS (X : Cx) (st : Stmt) (w : WS) : Prop := PS X st (sOf X.K w)
def MSs (X : Cx) (sts : List Stmt) (w : WS) : Prop := PSs X sts (sOf X.K w)
theorem ms_of {X : Cx} {st : Stmt} {t : TS} {w : WS} (h : PS X st t)
    (k : ∀ (B : Addr → Prop) (H0 : Hp) (L : Nat → Addr → Prop) (ρ : List Slot) (σ : L2.St) (H : Hp) (KD : DEnds) (D : Ends), Rep X.K B ρ σ H → Fr H0 L ρ σ H → w KD ρ → EndsOk X.K B H0 L KD D → t D σ H) : MS X st w :=
  PS_weak h fun D σ H ⟨B, H0, L, ρ, KD, R, F, hw, e⟩ => k B H0 L ρ σ H KD D R F hw e
def wNext : WS := fun KD ρ => KD.nx ρ
def wBrk : WS := fun KD ρ => KD.bk ρ
def wCnt : WS := fun KD ρ => KD.ct ρ
def wSeq (w1 w2 : WS) : WS := fun KD ρ => w1 { KD with nx := fun ρ' => w2 KD ρ' } ρ
def wIfS (t : WT) (w1 w2 : WS) : WS := fun KD ρ => t ρ fun b ρ' => if b = true then w1 KD ρ' else w2 KD ρ'
def wRet (w : WE) : WS := fun KD ρ => w ρ KD.rt
def wDrop (w : WE) : WS := fun KD ρ => w ρ fun _ ρ' => KD.nx ρ'
section
variable {X : Cx} {st : Stmt} {rest : List Stmt} {w1 w2 : WS} {e c : Expr} {w : WE} {t : WT} {pos : Pos}
theorem mss_nil : MSs X [] wNext := PSs_weak pss_nil fun D σ H ⟨B, H0, L, ρ, KD, R, F, hw, e⟩ => e.nx ρ σ H R F hw
theorem mss_cons (h1 : MS X st w1) (h2 : MSs X rest w2) : MSs X (st :: rest) (wSeq w1 w2) :=
  PSs_weak (pss_cons h1 h2) fun D σ H ⟨B, H0, L, ρ, KD, R, F, hw, e⟩ =>
    ⟨B, H0, L, ρ, _, R, F, hw, ⟨fun ρ' σ' H' R' F' h => ⟨B, H0, L, ρ', KD, R', F', h, e⟩, e.bk, e.ct, e.rt⟩⟩
theorem mss_one (h1 : MS X st w1) : MSs X [st] w1 := pss_one h1
theorem ms_ret (he : ME X e w) : MS X (.Return (some e) pos) (wRet w) := ms_of (ps_ret he) fun B H0 L ρ σ H KD D R F hw en =>
  ⟨B, ρ, _, R, hw, fun s v ρ' H' post sub kp q => en.rt s v ρ' σ H H' post (F.step kp sub) F.trk q⟩
theorem ms_expr (he : ME X e w) (hs : swapsWith e none pos.line X.env = pure false := by rfl) : MS X (.Expr e pos) (wDrop w) := ms_of (ps_expr he hs) fun B H0 L ρ σ H KD D R F hw en =>
  ⟨B, ρ, _, R, hw, fun s v ρ' H' post sub kp q => en.nx ρ' σ H' post.rep (F.step kp sub) q⟩
theorem ms_if {a b : List Stmt} (hc : MT X c t) (ha : MSs X a w1) (hb : MSs X b w2) : MS X (.If c a b pos) (wIfS t w1 w2) := ms_of (ps_if hc ha hb) fun B H0 L ρ σ H KD D R F hw en => by
  refine ⟨B, ρ, _, R, hw, fun b ρ' H' R' sub kp q => ?_⟩
  cases b with
  | true => exact ⟨B, H0, L, ρ', KD, R', F.step kp sub, q, en⟩
  | false => exact ⟨B, H0, L, ρ', KD, R', F.step kp sub, q, en⟩
end
def notLent (ρ : List Slot) (i : Nat) : Prop := match ρ[i]? with
  | some (.own true _) => False
  | some _ => True
  | none => False
theorem notLent_lt {ρ : List Slot} {i : Nat} (h : notLent ρ i) : i < ρ.length := by
  unfold notLent at h
  cases e : ρ[i]? with
  | none => rw [e] at h; exact h.elim
  | some s => exact (List.getElem?_eq_some_iff.mp e).1
theorem notLent_no {ρ : List Slot} {i : Nat} {o : O} (h : notLent ρ i) (e : ρ[i]? = some (.own true o)) : False := by
  unfold notLent at h; rw [e] at h; exact h
def prep (ρ : List Slot) : Slot → (Slot → List Slot → Prop) → Prop
  | .var j, k => frz ρ (.var j) fun d ρ' => k (.fro d) ρ'
  | .nil, _ => False
  | .fro d, k => k (.fro d) ρ
  | .own b o, k => k (.own b o) ρ
def put (i : Nat) (ρ : List Slot) : Slot → (List Slot → Prop) → Prop
  | .fro d, k => notLent ρ i ∧ k (ρ.set i (.fro d))
  | .own _ o, k => notLent ρ i ∧ k (ρ.set i (.own false o))
  | _, _ => False
section
variable {K : PySem.W.Frag} {Hs H0 : Hp} {B : Addr → Prop} {ρ : List Slot} {σ : L2.St} {H : Hp} {L : Nat → Addr → Prop} {i : Nat} {v : V}
theorem set_self {σ : L2.St} {ρ : List Slot} {x : Option V} (hl : ρ.length = σ.length) (h : i < ρ.length) : (σ.set i x)[i]? = some x := by
  rw [List.getElem?_set_self (by omega)]
theorem Rep.putF {d : D} (R : Rep K B ρ σ H) (r : RepV K (Av B ρ σ) H v d) (h : notLent ρ i) : Rep K B (ρ.set i (.fro d)) (σ.set i (some v)) H := by
  have hi := notLent_lt h
  have own : ∀ a, Own (ρ.set i (.fro d)) (σ.set i (some v)) a → Own ρ σ a := fun a ⟨j, b, o, e1, e2⟩ => by
    rcases getElem?_set_of e1 with ⟨_, z⟩ | ⟨n, z⟩
    · cases z
    · rw [List.getElem?_set_ne n] at e2; exact ⟨j, b, o, z, e2⟩
  have av : ∀ a, Av B (ρ.set i (.fro d)) (σ.set i (some v)) a → Av B ρ σ a := fun a z => z.elim (fun z => .inl (own a z)) .inr
  refine ⟨by rw [List.length_set, List.length_set]; exact R.len, fun j s e => ?_, fun j k b o b' o' a e1 e2 e3 e4 => ?_, R.btr, fun a z => R.dis a (own a z), R.tabs⟩
  · rcases getElem?_set_of e with ⟨rfl, rfl⟩ | ⟨n, z⟩
    · exact ⟨v, set_self R.len hi, r.av av⟩
    · rw [List.getElem?_set_ne n]
      have w := R.slot j s z
      cases s with
      | nil => trivial
      | fro d => obtain ⟨v, e1, r⟩ := w; exact ⟨v, e1, r.av av⟩
      | own b o => obtain ⟨a, e1, r⟩ := w; exact ⟨a, e1, r.av av⟩
      | var k => exact w
  · rcases getElem?_set_of e1 with ⟨_, z⟩ | ⟨n1, z1⟩
    · cases z
    · rcases getElem?_set_of e2 with ⟨_, z⟩ | ⟨n2, z2⟩
      · cases z
      · rw [List.getElem?_set_ne n1] at e3
        rw [List.getElem?_set_ne n2] at e4
        exact R.inj j k b o b' o' a z1 z2 e3 e4
theorem Fr.putF {d : D} (F : Fr H0 L ρ σ H) (h : notLent ρ i) : Fr H0 L (ρ.set i (.fro d)) (σ.set i (some v)) H where
  keep := fun a o e n t => F.keep a o e n t
  imm := F.imm
  trk := F.trk
  ownf := fun j o a e1 e2 => by
    rcases getElem?_set_of e1 with ⟨_, z⟩ | ⟨n, z⟩
    · cases z
    · rw [List.getElem?_set_ne n] at e2; exact F.ownf j o a z e2
  lent := fun j a => by
    rw [F.lent j a]
    by_cases n : i = j
    · subst n
      constructor
      · rintro ⟨⟨o, e⟩, _⟩; exact (notLent_no h e).elim
      · rintro ⟨⟨o, e⟩, _⟩
        rcases getElem?_set_of e with ⟨_, z⟩ | ⟨n, _⟩
        · cases z
        · exact absurd rfl n
    · rw [List.getElem?_set_ne n, List.getElem?_set_ne n]
theorem Rep.putO {o : O} {a : Addr} (R : Rep K B ρ σ H) (hb : B a) (r : OOk K (Av B ρ σ) H a o) (h : notLent ρ i) : Rep K (fun x => B x ∧ x ≠ a) (ρ.set i (.own false o)) (σ.set i (some (.ref a))) H := by
  have hi := notLent_lt h
  have own : ∀ x, Own (ρ.set i (.own false o)) (σ.set i (some (.ref a))) x → x = a ∨ Own ρ σ x := fun x ⟨j, b, o', e1, e2⟩ => by
    rcases getElem?_set_of e1 with ⟨rfl, z⟩ | ⟨n, z⟩
    · rw [set_self R.len hi] at e2; cases e2; exact .inl rfl
    · rw [List.getElem?_set_ne n] at e2; exact .inr ⟨j, b, o', z, e2⟩
  have av : ∀ x, Av (fun x => B x ∧ x ≠ a) (ρ.set i (.own false o)) (σ.set i (some (.ref a))) x → Av B ρ σ x := fun x z => z.elim (fun z => (own x z).elim (fun e => .inr (by rw [e]; exact hb)) .inl) fun z => .inr z.1
  refine ⟨by rw [List.length_set, List.length_set]; exact R.len, fun j s e => ?_, fun j k b o1 b' o2 x e1 e2 e3 e4 => ?_, fun x z => R.btr x z.1, fun x z w => ?_, R.tabs⟩
  · rcases getElem?_set_of e with ⟨rfl, rfl⟩ | ⟨n, z⟩
    · exact ⟨a, set_self R.len hi, r.av av⟩
    · rw [List.getElem?_set_ne n]
      have w := R.slot j s z
      cases s with
      | nil => trivial
      | fro d => obtain ⟨v, e1, r⟩ := w; exact ⟨v, e1, r.av av⟩
      | own b o => obtain ⟨a, e1, r⟩ := w; exact ⟨a, e1, r.av av⟩
      | var k => exact w
  · have no : ∀ (m : Nat) (b : Bool) (o' : O), ρ[m]? = some (.own b o') → σ[m]? = some (some (.ref a)) → False := fun m b o' z1 z2 => R.dis a ⟨m, b, o', z1, z2⟩ hb
    rcases getElem?_set_of e1 with ⟨rfl, z⟩ | ⟨n1, z1⟩
    · rw [set_self R.len hi] at e3
      cases e3
      rcases getElem?_set_of e2 with ⟨rfl, z⟩ | ⟨n2, z2⟩
      · rfl
      · rw [List.getElem?_set_ne n2] at e4; exact (no k _ _ z2 e4).elim
    · rw [List.getElem?_set_ne n1] at e3
      rcases getElem?_set_of e2 with ⟨rfl, z⟩ | ⟨n2, z2⟩
      · rw [set_self R.len hi] at e4; cases e4; exact (no j _ _ z1 e3).elim
      · rw [List.getElem?_set_ne n2] at e4
        exact R.inj j k b o1 b' o2 x z1 z2 e3 e4
  · rcases own x z with e | z
    · exact w.2 e
    · exact R.dis x z w.1
theorem Fr.putO {o : O} {a : Addr} (F : Fr H0 L ρ σ H) (n0 : H0 a = none) (hl : ρ.length = σ.length) (h : notLent ρ i) : Fr H0 L (ρ.set i (.own false o)) (σ.set i (some (.ref a))) H where
  keep := fun a o e n t => F.keep a o e n t
  imm := F.imm
  trk := F.trk
  ownf := fun j o' x e1 e2 => by
    rcases getElem?_set_of e1 with ⟨rfl, z⟩ | ⟨n, z⟩
    · rw [set_self hl (notLent_lt h)] at e2; cases e2; exact n0
    · rw [List.getElem?_set_ne n] at e2; exact F.ownf j o' x z e2
  lent := fun j x => by
    rw [F.lent j x]
    by_cases n : i = j
    · subst n
      constructor
      · rintro ⟨⟨o, e⟩, _⟩; exact (notLent_no h e).elim
      · rintro ⟨⟨o, e⟩, _⟩
        rcases getElem?_set_of e with ⟨_, z⟩ | ⟨n, _⟩
        · cases z
        · exact absurd rfl n
    · rw [List.getElem?_set_ne n, List.getElem?_set_ne n]
theorem prep_ok {B0 : Addr → Prop} {s : Slot} {k : Slot → List Slot → Prop} (R : Rep K B ρ σ H) (p : Pend K Hs B ρ σ H s v) (h : prep ρ s k) :
    ∃ s' ρ', k s' ρ' ∧ Rep K B ρ' σ H ∧ Sub ρ' ρ ∧ Pend K Hs B ρ' σ H s' v ∧ (∀ j, s' ≠ .var j) ∧ (∀ b o, s' = .own b o → s = .own b o) := by
  cases s with
  | nil => exact h.elim
  | fro d => exact ⟨.fro d, ρ, h, R, Sub.refl ρ, p, nofun, fun b o z => z⟩
  | own b o => exact ⟨.own b o, ρ, h, R, Sub.refl ρ, p, nofun, fun b o z => z⟩
  | var j =>
    have p' : Pend K H B ρ σ H (.var j) v := p
    have h' : frz ρ (.var j) fun d ρ' => k (.fro d) ρ' := h
    obtain ⟨d, ρ', q, R', sub, r⟩ := frz_ok (B0 := B) (H0 := H) R p' (fun _ z => z) R.btr h'
    exact ⟨.fro d, ρ', q, R', sub, r, nofun, nofun⟩
theorem put_ok {s : Slot} {k : List Slot → Prop} (R : Rep K B ρ σ H) (F : Fr H0 L ρ σ H) (p : Pend K Hs B ρ σ H s v) (hs : ∀ a, Hs a = none → H0 a = none) (h : put i ρ s k) :
    ∃ (B' : Addr → Prop) (ρ' : List Slot), k ρ' ∧ Rep K B' ρ' (σ.set i (some v)) H ∧ Fr H0 L ρ' (σ.set i (some v)) H ∧ (∀ a, B' a → B a) ∧ (∀ a, B a → B' a ∨ Hs a = none) ∧
      ∀ s2 v2, Pend K Hs B ρ σ H s2 v2 → (∀ j, s2 ≠ .var j) → (∀ b o b' o', s = .own b o → s2 = .own b' o' → v ≠ v2) → Pend K Hs B' ρ' (σ.set i (some v)) H s2 v2 := by
  cases s with
  | nil => exact h.elim
  | var j => exact h.elim
  | fro d =>
    obtain ⟨h1, h2⟩ := h
    refine ⟨B, _, h2, R.putF p h1, F.putF h1, fun _ z => z, fun _ z => .inl z, fun s2 v2 p2 nv _ => ?_⟩
    have av : ∀ a, Av B (ρ.set i (.fro d)) (σ.set i (some v)) a → Av B ρ σ a := fun a z => z.elim (fun ⟨j, b, o, e1, e2⟩ => by
      rcases getElem?_set_of e1 with ⟨_, z⟩ | ⟨n, z⟩
      · cases z
      · rw [List.getElem?_set_ne n] at e2; exact .inl ⟨j, b, o, z, e2⟩) .inr
    cases s2 with
    | nil => exact p2
    | fro d2 => exact RepV.av p2 av
    | own b2 o2 => obtain ⟨a, rfl, n1, n2, q⟩ := p2; exact ⟨a, rfl, n1, n2, q.av av⟩
    | var j => exact absurd rfl (nv j)
  | own b o =>
    obtain ⟨a, rfl, n, n0, q⟩ := p
    obtain ⟨h1, h2⟩ := h
    refine ⟨_, _, h2, R.putO n q h1, F.putO (hs a n0) R.len h1, fun _ z => z.1, fun x z => ?_, fun s2 v2 p2 nv nd => ?_⟩
    · by_cases e : x = a
      · subst e; exact .inr n0
      · exact .inl ⟨z, e⟩
    · have av : ∀ x, Av (fun x => B x ∧ x ≠ a) (ρ.set i (.own false o)) (σ.set i (some (.ref a))) x → Av B ρ σ x := fun x z => z.elim (fun ⟨j, b', o', e1, e2⟩ => by
        rcases getElem?_set_of e1 with ⟨rfl, z⟩ | ⟨n', z⟩
        · rw [set_self R.len (notLent_lt h1)] at e2; cases e2; exact .inr n
        · rw [List.getElem?_set_ne n'] at e2; exact .inl ⟨j, b', o', z, e2⟩) fun z => .inr z.1
      cases s2 with
      | nil => exact p2
      | fro d2 => exact RepV.av p2 av
      | own b2 o2 => obtain ⟨a2, rfl, m1, m2, q2⟩ := p2; exact ⟨a2, rfl, ⟨m1, fun e => nd b o b2 o2 rfl rfl (by rw [e])⟩, m2, q2.av av⟩
      | var j => exact absurd rfl (nv j)
end
def wSet (i : Nat) (w : WE) : WS := fun KD ρ => w ρ fun s ρ1 => prep ρ1 s fun s' ρ2 => put i ρ2 s' KD.nx
theorem wSet_ok {K : PySem.W.Frag} {i : Nat} {w : WE} {B : Addr → Prop} {H0 : Hp} {L : Nat → Addr → Prop} {ρ : List Slot} {σ : L2.St} {H : Hp} {KD : DEnds} {Q : L2.St → Hp → Prop} (R : Rep K B ρ σ H) (F : Fr H0 L ρ σ H) (hw : wSet i w KD ρ)
    (hq : ∀ ρ σ H, Rep K B ρ σ H → Fr H0 L ρ σ H → KD.nx ρ → Q σ H) : tOf K w σ H fun x H1 => Q (σ.set i (some x)) H1 := by
  refine ⟨B, ρ, _, R, hw, fun s v ρ1 H1 post sub kp q => ?_⟩
  obtain ⟨B1, b1, b1', R1, P1⟩ := post.pend
  obtain ⟨s', ρ2, q2, R2, sub2, P2, _, _⟩ := prep_ok (B0 := B) R1 P1 q
  obtain ⟨B3, ρ3, q3, R3, F3, c1, c2, _⟩ := put_ok R2 ((F.step kp sub).step Kp.refl sub2) P2 (fun a z => by
    cases e : H0 a with
    | none => rfl
    | some o => exact absurd z (F.trk a (by rw [e]; exact nofun))) q2
  refine hq ρ3 _ H1 (R3.fewer fun a z => ?_) F3 q3
  rcases c2 a (b1 a z) with z' | z'
  · exact z'
  · exact absurd z' (R.btr a z)
section
variable {X : Cx} {e : Expr} {w : WE} {pos : Pos}
theorem ms_set {i : Nat} {x : Str} {pos' : Pos} (hN : X.N.Nodup) (hi : X.N[i]? = some x) (hx : Loc X.env.scope x) (he : ME X e w) (hs : swapsWith e (some (.Name x pos')) pos.line X.env = pure false := by rfl) (hf : X.fn x = true ∨ X.env.scope.names.lookup x = some .local := by first | exact .inl rfl | exact .inr rfl | assumption) :
    MS X (.Assign [.Name x pos'] e pos) (wSet i w) := ms_of (ps_set hN hi hx he hs hf) fun B H0 L ρ σ H KD D R F hw en => wSet_ok R F hw en.nx
end
abbrev WG := D → List Slot → (List Slot → Prop) → Prop
def gOf (K : PySem.W.Frag) (js : List Nat) (g : WG) : TG := fun v σ H Q => ∃ (B : Addr → Prop) (H0 : Hp) (L : Nat → Addr → Prop) (ρ : List Slot) (d : D) (k : List Slot → Prop), Rep K B ρ σ H ∧ Fr H0 L ρ σ H ∧ RepV K (Av B ρ σ) H v d ∧ g d ρ k ∧
  ∀ ρ' σ', Rep K B ρ' σ' H → Fr H0 L ρ' σ' H → (∀ j, j ∉ js → σ'[j]? = σ[j]? ∧ ρ'[j]? = ρ[j]?) → (∀ (j : Nat) (b : Bool) (o : O), j ∈ js → ρ'[j]? ≠ some (.own b o)) → σ'.length = σ.length → k ρ' → Q σ' H
def MG (X : Cx) (tg : Expr) (js : List Nat) (g : WG) : Prop := PG X tg (gOf X.K js g)
theorem PG_weak {X : Cx} {e : Expr} {t t' : TG} (h : PG X e t) (k : ∀ v σ H Q, t' v σ H Q → t v σ H Q) : PG X e t' := ⟨fun pins s σ H v u Q I r q => h.run pins s σ H v u Q I r (k v σ H Q q)⟩
def gNm (i : Nat) : WG := fun d ρ k => notLent ρ i ∧ k (ρ.set i (.fro d))
def gNms : List Nat → List D → List Slot → (List Slot → Prop) → Prop
  | [], [], ρ, k => k ρ
  | i :: is, d :: ds, ρ, k => gNm i d ρ fun ρ' => gNms is ds ρ' k
  | _, _, _, _ => False
def gTp (is : List Nat) : WG := fun d ρ k => match d with
  | .tup ds => gNms is ds ρ k
  | .lst ds => gNms is ds ρ k
  | _ => False
theorem PG_or {X : Cx} {e : Expr} {t t' : TG} (h : PG X e t) (h' : PG X e t') : PG X e (fun v σ H Q => t v σ H Q ∨ t' v σ H Q) := ⟨fun pins s σ H v u Q I r q => q.elim (h.run pins s σ H v u Q I r) (h'.run pins s σ H v u Q I r)⟩
def gsOf (K : PySem.W.Frag) (is : List Nat) : TGs := fun vs σ H Q => ∃ (B : Addr → Prop) (H0 : Hp) (L : Nat → Addr → Prop) (ρ : List Slot) (ds : List D) (k : List Slot → Prop), Rep K B ρ σ H ∧ Fr H0 L ρ σ H ∧ RepL K (Av B ρ σ) H vs ds ∧ gNms is ds ρ k ∧
  ∀ ρ' σ', Rep K B ρ' σ' H → Fr H0 L ρ' σ' H → (∀ j, j ∉ is → σ'[j]? = σ[j]? ∧ ρ'[j]? = ρ[j]?) → (∀ (j : Nat) (b : Bool) (o : O), j ∈ is → ρ'[j]? ≠ some (.own b o)) → σ'.length = σ.length → k ρ' → Q σ' H
theorem set_fro_no {ρ : List Slot} {i : Nat} {d : D} {b : Bool} {o : O} : (ρ.set i (.fro d))[i]? ≠ some (.own b o) := fun z => by
  rcases getElem?_set_of z with ⟨_, z⟩ | ⟨n, _⟩
  · cases z
  · exact n rfl
theorem av_putF {B : Addr → Prop} {ρ : List Slot} {σ : L2.St} {i : Nat} {d : D} {v : V} (a : Addr) (z : Av B (ρ.set i (.fro d)) (σ.set i (some v)) a) : Av B ρ σ a := z.elim (fun ⟨j, b, o, e1, e2⟩ => by
  rcases getElem?_set_of e1 with ⟨_, z⟩ | ⟨n, z⟩
  · cases z
  · rw [List.getElem?_set_ne n] at e2; exact .inl ⟨j, b, o, z, e2⟩) .inr
section
variable {X : Cx} {pos : Pos}
theorem mg_name {i : Nat} {x : Str} (hN : X.N.Nodup) (hi : X.N[i]? = some x) (hx : Loc X.env.scope x) (hf : X.fn x = true ∨ X.env.scope.names.lookup x = some .local := by first | exact .inl rfl | exact .inr rfl | assumption) : MG X (.Name x pos) [i] (gNm i) :=
  PG_weak (pg_name hN hi hx hf) fun v σ H Q ⟨B, H0, L, ρ, d, k, R, F, r, ⟨g1, g2⟩, hq⟩ =>
    hq _ _ (R.putF r g1) (F.putF g1) (fun j hj => by
      have n : i ≠ j := fun z => hj (by subst z; simp)
      rw [List.getElem?_set_ne n, List.getElem?_set_ne n]; exact ⟨rfl, rfl⟩) (fun j b o hj => by
      obtain rfl : j = i := by simpa using hj
      exact set_fro_no) (by rw [List.length_set]) g2
structure MGs (X : Cx) (ts : List Expr) (is : List Nat) : Prop where
  run : PGs X ts (gsOf X.K is)
theorem mgs_nil : MGs X [] [] := ⟨⟨fun pins s σ H vs us Q I r h => (pgs_nil).run pins s σ H vs us Q I r (by
  obtain ⟨B, H0, L, ρ, ds, k, R, F, rl, g, hq⟩ := h
  cases rl with
  | nil => exact ⟨rfl, hq ρ σ R F (fun _ _ => ⟨rfl, rfl⟩) (fun j b o hj => by cases hj) rfl g⟩
  | cons _ _ => exact g.elim)⟩⟩
theorem mgs_cons {x : Str} {i : Nat} {ts : List Expr} {is : List Nat} (hN : X.N.Nodup) (hi : X.N[i]? = some x) (hx : Loc X.env.scope x) (hr : MGs X ts is) (hf : X.fn x = true ∨ X.env.scope.names.lookup x = some .local := by first | exact .inl rfl | exact .inr rfl | assumption)
    (hs : (assignEach (.Name x pos :: ts) X.env).map (·.2) = assign (.Name x pos) X.env :: (assignEach ts X.env).map (·.2) := by rfl) : MGs X (.Name x pos :: ts) (i :: is) :=
  ⟨⟨fun pins s σ H vs us Q I r h => (pgs_cons (pg_name hN hi hx hf) hr.run hs).run pins s σ H vs us Q I r (by
    obtain ⟨B, H0, L, ρ, ds, k, R, F, rl, g, hq⟩ := h
    cases rl with
    | nil => exact g.elim
    | cons r1 r2 =>
      obtain ⟨g1, g2⟩ := g
      refine ⟨_, _, rfl, B, H0, L, _, _, k, R.putF r1 g1, F.putF g1, r2.av (fun a z => av_putF a z), g2, fun ρ' σ' R' F' hj hn hl q => hq ρ' σ' R' F' (fun j hj' => ?_) (fun j b o hj' => ?_) (by rw [hl, List.length_set]) q⟩
      · have n : i ≠ j := fun z => hj' (by subst z; simp)
        obtain ⟨z1, z2⟩ := hj j (fun z => hj' (List.mem_cons_of_mem _ z))
        rw [z1, z2, List.getElem?_set_ne n, List.getElem?_set_ne n]; exact ⟨rfl, rfl⟩
      · by_cases hm : j ∈ is
        · exact hn j b o hm
        · obtain rfl : j = i := (List.mem_cons.mp hj').elim id fun z => absurd z hm
          rw [(hj j hm).2]
          exact set_fro_no)⟩⟩
theorem mg_tup {es : List Expr} {k : Nat} {is : List Nat} {n : Nat} (hc : X.calm = true) (h : MGs X es is)
    (hn : (assignEach es X.env).length = n := by rfl) (hl : is.length = n := by rfl) (hst : (assignEach es X.env).findIdx? (·.1) = none := by rfl) : MG X (.Tuple es k pos) is (gTp is) :=
  PG_weak (PG_or (pg_tup hc h.run hn hst) (pg_unl hc h.run hn hst)) fun v σ H Q ⟨B, H0, L, ρ, d, k, R, F, r, g, hq⟩ => by
    have len : ∀ {is : List Nat} {ds : List D} {ρ : List Slot} {k : List Slot → Prop}, gNms is ds ρ k → is.length = ds.length := by
      intro is
      induction is with
      | nil => intro ds ρ k h; cases ds with
        | nil => rfl
        | cons _ _ => exact h.elim
      | cons i is ih => intro ds ρ k h; cases ds with
        | nil => exact h.elim
        | cons d ds => rw [List.length_cons, List.length_cons, ih h.2]
    cases r with
    | tup hs rl =>
      have g' : gNms is _ ρ k := g
      exact .inl ⟨_, _, rfl, hs, by rw [rl.length, ← len g', hl], B, H0, L, ρ, _, k, R, F, rl, g, hq⟩
    | lst hs _ rl =>
      have g' : gNms is _ ρ k := g
      exact .inr ⟨_, _, rfl, SqL.of hs, by rw [rl.length, ← len g', hl], B, H0, L, ρ, _, k, R, F, rl, g, hq⟩
    | _ => exact g.elim
end
def wAsg (w : WE) (g : WG) : WS := fun KD ρ => w ρ fun s ρ1 => frz ρ1 s fun d ρ2 => g d ρ2 KD.nx
theorem ms_asg {X : Cx} {tg e : Expr} {w : WE} {js : List Nat} {g : WG} {pos : Pos} (he : ME X e w) (hg : MG X tg js g) (hs : swapsWithSole [tg] e pos.line X.env = pure false := by rfl) (hw : swappedStores [tg] e X.env = pure none := by rfl)
    (h1 : (assignEach [tg] X.env).map (·.2) = [assign tg X.env] := by rfl) : MS X (.Assign [tg] e pos) (wAsg w g) := ms_of (ps_asg he hg hs hw h1) fun B H0 L ρ σ H KD D R F hw en => by
  refine ⟨B, ρ, _, R, hw, fun s v ρ1 H1 post sub kp q => ?_⟩
  obtain ⟨B1, b1, b1', R1, P1⟩ := post.pend
  obtain ⟨d, ρ2, q2, R2, sub2, r2⟩ := frz_ok (B0 := B) R1 P1 b1 R.btr q
  exact ⟨B, H0, L, ρ2, d, _, R2.fewer b1, (F.step kp sub).step Kp.refl sub2, r2, q2, fun ρ' σ' R' F' _ _ _ q' => en.nx ρ' σ' H1 R' F' q'⟩
end Dl
namespace Dl
open PySem L2
variable [TabN]
def Yld (K : PySem.W.Frag) (A : Addr → Prop) (H1 : Hp) (J : It) (ds : List D) : Prop := ∀ (A2 : Addr → Prop) (H2 : Hp), Kp0 A H1 H2 → (∀ a, A2 a → A a ∨ H1 a = none) → (∀ a, A2 a → H2 a ≠ none) → ∀ i : Nat,
  (i = ds.length → J.stop i H2) ∧ ∀ d, ds[i]? = some d → J.go i H2 ∧ ∀ x H3, J.yld i H2 x H3 → Ex H2 H3 ∧ RepV K A2 H3 x d
abbrev WI := List Slot → (List D → List Slot → Prop) → Prop
def iOf (K : PySem.W.Frag) (wi : WI) : TI := fun σ H R => ∃ (B : Addr → Prop) (ρ : List Slot) (Q' : List D → List Slot → Prop), Rep K B ρ σ H ∧ wi ρ Q' ∧
  ∀ ds J ρ' H', Rep K B ρ' σ H' → Sub ρ' ρ → Kp (Own ρ σ) H H' → Yld K (Av B ρ' σ) H' J ds → Q' ds ρ' → R J H'
def MI (X : Cx) (tg iter : Expr) (wi : WI) : Prop := PI X tg iter (iOf X.K wi)
theorem PI_weak {X : Cx} {tg e : Expr} {t t' : TI} (h : PI X tg e t) (k : ∀ σ H Q, t' σ H Q → t σ H Q) : PI X tg e t' := ⟨fun pins s σ H Q I q => h.run pins s σ H Q I (k σ H Q q)⟩
theorem mi_of {X : Cx} {tg e : Expr} {t : TI} {w : WI} (h : PI X tg e t)
    (k : ∀ (B : Addr → Prop) (ρ : List Slot) (σ : L2.St) (H : Hp) (Q' : List D → List Slot → Prop) (R : It → Hp → Prop), Rep X.K B ρ σ H → w ρ Q' →
      (∀ ds J ρ' H', Rep X.K B ρ' σ H' → Sub ρ' ρ → Kp (Own ρ σ) H H' → Yld X.K (Av B ρ' σ) H' J ds → Q' ds ρ' → R J H') → t σ H R) : MI X tg e w :=
  PI_weak h fun σ H Q ⟨B, ρ, Q', R, hw, hq⟩ => k B ρ σ H Q' Q R hw hq
theorem yld_list {K : PySem.W.Frag} {A : Addr → Prop} {H : Hp} {a : Addr} {xs : List V} {ds : List D} (h : H a = some (.lst xs)) (n : ¬ A a) (r : RepL K A H xs ds) : Yld K A H (Itl K a) ds := fun A2 H2 k ha ht i => by
  have h2 : H2 a = some (.lst xs) := k.keep a _ h n
  have r2 : RepL K A2 H2 xs ds := r.mono0 k (fun _ z => z) ha
  refine ⟨fun e => ⟨xs, SqL.of h2, by rw [r.length]; omega⟩, fun d e => ?_⟩
  obtain ⟨v, e1, rv⟩ := r2.get e
  refine ⟨⟨xs, v, SqL.of h2, e1⟩, fun x H3 y => ?_⟩
  obtain ⟨rfl, y⟩ := y
  have := y xs (SqL.of h2)
  rw [e1] at this; cases this
  exact ⟨Ex.refl _, rv⟩
theorem yld_tup {K : PySem.W.Frag} {A : Addr → Prop} {H : Hp} {a : Addr} {xs : List V} {ds : List D} (h : SqT K H a xs) (r : RepL K A H xs ds) : Yld K A H (Itt K a) ds := fun A2 H2 k ha ht i => by
  have h2 : SqT K H2 a xs := k.rdT h
  have r2 : RepL K A2 H2 xs ds := r.mono0 k (fun _ z => z) ha
  refine ⟨fun e => ⟨xs, h2, by rw [r.length]; omega⟩, fun d e => ?_⟩
  obtain ⟨v, e1, rv⟩ := r2.get e
  refine ⟨⟨xs, v, h2, e1⟩, fun x H3 y => ?_⟩
  obtain ⟨rfl, y⟩ := y
  have := y xs h2
  rw [e1] at this; cases this
  exact ⟨Ex.refl _, rv⟩
theorem yld_range {K : PySem.W.Frag} {A : Addr → Prop} {H : Hp} {lo : Int} {n : Nat} : Yld K A H (Itr lo n) ((List.range n).map fun i : Nat => D.int (lo + i)) := fun A2 H2 k ha ht i => by
  refine ⟨fun e => ?_, fun d e => ?_⟩
  · rw [List.length_map, List.length_range] at e; exact Nat.le_of_eq e.symm
  · rw [List.getElem?_map] at e
    cases q : (List.range n)[i]? with
    | none => rw [q] at e; cases e
    | some j =>
      rw [q] at e
      have hj := List.getElem?_eq_some_iff.mp q
      obtain ⟨h1, h2⟩ := hj
      rw [List.length_range] at h1
      rw [List.getElem_range] at h2
      subst h2
      cases e
      refine ⟨h1, fun x H3 y => ?_⟩
      obtain ⟨rfl, rfl⟩ := y
      exact ⟨Ex.refl _, .int _⟩
def iSeq (K : PySem.W.Frag) (tl : TE) : TI := fun σ H R => tl σ H fun x H1 => (∃ a xs, x = .ref a ∧ SqL K H1 a xs ∧ R (Itl K a) H1) ∨ (∃ a xs, x = .ref a ∧ SqT K H1 a xs ∧ R (Itt K a) H1) ∨ ∃ y, x = .str y ∧ R (Its y) H1
theorem pi_seq {X : Cx} {tg l : Expr} {tl : TE} (hl : PE X l tl) : PI X tg l (iSeq X.K tl) := ⟨fun pins s σ H R I h => by
  refine thn (hl.run pins s σ H _ I h) fun v s1 hv => ?_
  obtain ⟨x, H1, I1, r1, ⟨a, xs, rfl, hq, q⟩ | ⟨a, xs, rfl, hq, q⟩ | ⟨y, rfl, q⟩⟩ := hv
  · cases r1
    obtain ⟨its, rv, p, hz⟩ := I1.list hq
    exact wpAny_pyIter_list p.isList (pi_one (tk := s1.toks) I1 _ (turn_list a _) ⟨_, Heap.get?_push_size _ rfl, rfl, rfl⟩ q)
  · cases r1
    obtain ⟨its, rv, p, hz⟩ := I1.tuple hq
    exact wpAny_pyIter_tuple (items := its.toArray) p (pi_one (tk := s1.toks) I1 _ (turn_tuple a _) ⟨_, Heap.get?_push_size _ rfl, rfl, rfl⟩ q)
  · obtain ⟨t, rfl⟩ := r1
    cases ha : y.cps.all (· < 128) with
    | false => exact wpAny_pyIter_wide ha (pi_one (tk := s1.toks) I1 _ (turn_str _ y t "str_iterator" (.inr rfl)) ⟨_, Heap.get?_push_size _ rfl, rfl, rfl⟩ q)
    | true => exact wpAny_pyIter_ascii ha (pi_one (tk := s1.toks) I1 _ (turn_str _ y t "str_ascii_iterator" (.inl rfl)) ⟨_, Heap.get?_push_size _ rfl, rfl, rfl⟩ q)⟩
def signs (y : Str) : List D := y.cps.toList.map fun c => D.str ⟨#[c]⟩
theorem yld_str {K : PySem.W.Frag} {A : Addr → Prop} {H : Hp} {y : Str} : Yld K A H (Its y) (signs y) := fun A2 H2 k ha ht i => by
  refine ⟨fun e => ?_, fun d e => ?_⟩
  · unfold signs at e; rw [List.length_map, Array.length_toList] at e; exact Nat.le_of_eq e.symm
  · unfold signs at e
    rw [List.getElem?_map, Array.getElem?_toList] at e
    cases q : y.cps[i]? with
    | none => rw [q] at e; cases e
    | some c =>
      rw [q] at e
      cases e
      refine ⟨(Array.getElem?_eq_some_iff.mp q).1, fun x H3 z => ?_⟩
      obtain ⟨rfl, c', e1, rfl⟩ := z
      rw [q] at e1; cases e1
      exact ⟨Ex.refl _, .str _⟩
def itemsOf : D → Option (List D)
  | .lst ds => some ds
  | .tup ds => some ds
  | .str y => some (signs y)
  | _ => none
def wSeqI (w : WE) : WI := fun ρ Q => w ρ fun s ρ1 => frz ρ1 s fun d ρ2 => match itemsOf d with
  | some ds => Q ds ρ2
  | none => False
theorem mi_seq {X : Cx} {tg l : Expr} {w : WE} (hl : ME X l w) : MI X tg l (wSeqI w) := mi_of (pi_seq hl) fun B ρ σ H Q' R0 R hw hq => by
  refine ⟨B, ρ, _, R, hw, fun s v ρ1 H1 post sub kp q => ?_⟩
  obtain ⟨B1, b1, b1', R1, P1⟩ := post.pend
  obtain ⟨d, ρ2, q2, R2, sub2, r2⟩ := frz_ok (B0 := B) R1 P1 b1 R.btr q
  have R3 := R2.fewer b1
  cases r2 with
  | lst h n r => exact .inl ⟨_, _, rfl, SqL.of h, hq _ _ ρ2 H1 R3 (sub.trans sub2) kp (yld_list h n r) q2⟩
  | tup h r => exact .inr (.inl ⟨_, _, rfl, h, hq _ _ ρ2 H1 R3 (sub.trans sub2) kp (yld_tup h r) q2⟩)
  | str y => exact .inr (.inr ⟨y, rfl, hq _ _ ρ2 H1 R3 (sub.trans sub2) kp yld_str q2⟩)
  | _ => exact q2.elim
def rangeD (lo : Int) (n : Nat) : List D := (List.range n).map fun i : Nat => D.int (lo + i)
def wRng1 (ws : List WE) : WI := fun ρ Q => wArgs ws ρ fun ss ρ' => withL ρ' ss fun ds => match ds with
  | [.int j] => -(2 ^ 62) ≤ j ∧ j < 2 ^ 62 ∧ Q (rangeD 0 j.toNat) ρ'
  | _ => False
def wRng2 (ws : List WE) : WI := fun ρ Q => wArgs ws ρ fun ss ρ' => withL ρ' ss fun ds => match ds with
  | [.int i, .int j] => (-(2 ^ 62) ≤ i ∧ i < 2 ^ 62 ∧ -(2 ^ 62) ≤ j ∧ j < 2 ^ 62) ∧ Q (rangeD i (j - i).toNat) ρ'
  | _ => False
theorem withL_get {ρ ss : List Slot} {k : List D → Prop} (h : withL ρ ss k) : ∃ ds, lookL ρ ss = some ds ∧ k ds := by
  unfold withL at h
  cases e : lookL ρ ss with
  | none => rw [e] at h; exact h.elim
  | some ds => rw [e] at h; exact ⟨ds, rfl, h⟩
theorem sees_int {K : PySem.W.Frag} {A : Addr → Prop} {H : Hp} {v : V} {i : Int} (h : Sees K A H v (.int i)) : v = .int i := by
  have h' : RepV K A H v (.int i) := h
  cases h'; rfl
theorem seesL1 {K : PySem.W.Frag} {A : Addr → Prop} {H : Hp} {vs : List V} {d : D} (h : SeesL K A H vs [d]) : ∃ v, vs = [v] ∧ Sees K A H v d := by
  match vs, h with
  | [v], h => exact ⟨v, rfl, h.1⟩
theorem seesL2 {K : PySem.W.Frag} {A : Addr → Prop} {H : Hp} {vs : List V} {d e : D} (h : SeesL K A H vs [d, e]) : ∃ v u, vs = [v, u] ∧ Sees K A H v d ∧ Sees K A H u e := by
  match vs, h with
  | [v, u], h => exact ⟨v, u, rfl, h.1, h.2.1⟩
theorem mi_range1 {X : Cx} {tg a : Expr} {ws : List WE} {p pos : Pos} (hg : Gl X "range") (hm : X.mg "range" = none) (ha : MA X [a] ws) (hs : starEach [a] X.env = [(false, eval a X.env)] := by rfl) : MI X tg (.Call (.Name "range" p) [a] [] pos) (wRng1 ws) :=
  mi_of (pi_range1 hg hm ha hs) fun B ρ σ H Q' R0 R hw hq => by
    refine ⟨B, ρ, _, R, hw, fun ss vs ρ2 B2 H2 b2 b2' R2 P2 sub kp q => ?_⟩
    obtain ⟨ds, e, q⟩ := withL_get q
    have sl := P2.sees R2 e
    match ds, q, sl with
    | [.int j], q, sl =>
      obtain ⟨v, rfl, sv⟩ := seesL1 sl
      cases sees_int sv
      exact ⟨j, rfl, q.1, q.2.1, hq _ _ ρ2 H2 (R2.fewer b2) sub kp yld_range q.2.2⟩
def zipD (xs ys : List D) : List D := (xs.zip ys).map fun p => D.tup [p.1, p.2]
def wZip (ws : List WE) : WI := fun ρ Q => wArgs ws ρ fun ss ρ' => frzL ρ' ss fun ds ρ2 => match ds with
  | [.lst xs, .lst ys] => Q (zipD xs ys) ρ2
  | [.tup xs, .tup ys] => Q (zipD xs ys) ρ2
  | _ => False
theorem zip_get {xs ys : List D} {i : Nat} {d : D} (h : (zipD xs ys)[i]? = some d) : ∃ x y, xs[i]? = some x ∧ ys[i]? = some y ∧ d = .tup [x, y] := by
  unfold zipD at h
  rw [List.getElem?_map] at h
  cases q : (xs.zip ys)[i]? with
  | none => rw [q] at h; cases h
  | some p =>
    rw [q] at h
    cases h
    obtain ⟨h1, h2⟩ := List.getElem?_zip_eq_some.mp q
    exact ⟨_, _, h1, h2, rfl⟩
theorem zip_len (xs ys : List D) : (zipD xs ys).length = min xs.length ys.length := by unfold zipD; rw [List.length_map, List.length_zip]
theorem repL_one {K : PySem.W.Frag} {A : Addr → Prop} {H : Hp} {vs : List V} {d e : D} (r : RepL K A H vs [d, e]) : ∃ v u, vs = [v, u] ∧ RepV K A H v d ∧ RepV K A H u e := by
  cases r with
  | cons h1 r =>
    cases r with
    | cons h2 r => cases r; exact ⟨_, _, rfl, h1, h2⟩
theorem mi_zip {X : Cx} {e e2 : Expr} {ws : List WE} {p pos tpos : Pos} {elts : List Expr} {kk : Nat} (hg : Gl X "zip") (hm : X.mg "zip" = none) (ha : MA X [e, e2] ws)
    (hs : starEach [e, e2] X.env = (false, eval e X.env) :: starEach [e2] X.env := by rfl) (hpl : (backTo pos (starEach [e2] X.env)).any (·.1) = false := by rfl) :
    MI X (.Tuple elts kk tpos) (.Call (.Name "zip" p) [e, e2] [] pos) (wZip ws) := mi_of (RZ.pi_zipA hg hm ha hs hpl) fun B ρ σ H Q' R0 R hw hq => by
  refine args_frz R hw fun ds vs ρ' H' R' r sub kp q => ?_
  match ds, q, r with
  | [.lst xs, .lst ys], q, r =>
    obtain ⟨v, u, rfl, r1, r2⟩ := repL_one r
    cases r1 with
    | lst h1 n1 l1 =>
      cases r2 with
      | lst h2 n2 l2 =>
        refine ⟨_, _, _, _, rfl, .inl ⟨SqL.of h1, SqL.of h2, hq _ _ ρ' H' R' sub kp (fun A2 H2 k ha ht i => ?_) q⟩⟩
        have g1 := k.keep _ _ h1 n1
        have g2 := k.keep _ _ h2 n2
        have m1 := l1.mono0 k (fun _ z => z) ha
        have m2 := l2.mono0 k (fun _ z => z) ha
        refine ⟨fun e => ⟨_, _, SqL.of g1, SqL.of g2, ?_⟩, fun d e => ?_⟩
        · rw [zip_len] at e; rw [l1.length, l2.length]; omega
        · obtain ⟨x, y, e1, e2, rfl⟩ := zip_get e
          obtain ⟨v1, f1, p1⟩ := m1.get e1
          obtain ⟨v2, f2, p2⟩ := m2.get e2
          refine ⟨⟨_, _, v1, v2, SqL.of g1, SqL.of g2, f1, f2⟩, fun z H3 yz => ?_⟩
          obtain ⟨T, z1, z2, rfl, nT, rfl, q1, q2⟩ := yz
          have := q1 _ (SqL.of g1); rw [f1] at this; cases this
          have := q2 _ (SqL.of g2); rw [f2] at this; cases this
          have ex := Ex.new (o := HO.tup [v1, v2]) nT
          exact ⟨ex, .tup (SqT.of upd_same) (.cons (p1.mono (S := fun _ => False) ex.kp (fun _ z => z.elim) fun _ z => .inl z) (.cons (p2.mono (S := fun _ => False) ex.kp (fun _ z => z.elim) fun _ z => .inl z) .nil))⟩
  | [.tup xs, .tup ys], q, r =>
    obtain ⟨v, u, rfl, r1, r2⟩ := repL_one r
    cases r1 with
    | tup h1 l1 =>
      cases r2 with
      | tup h2 l2 =>
        refine ⟨_, _, _, _, rfl, .inr ⟨h1, h2, hq _ _ ρ' H' R' sub kp (fun A2 H2 k ha ht i => ?_) q⟩⟩
        have g1 := k.rdT h1
        have g2 := k.rdT h2
        have m1 := l1.mono0 k (fun _ z => z) ha
        have m2 := l2.mono0 k (fun _ z => z) ha
        refine ⟨fun e => ⟨_, _, g1, g2, ?_⟩, fun d e => ?_⟩
        · rw [zip_len] at e; rw [l1.length, l2.length]; omega
        · obtain ⟨x, y, e1, e2, rfl⟩ := zip_get e
          obtain ⟨v1, f1, p1⟩ := m1.get e1
          obtain ⟨v2, f2, p2⟩ := m2.get e2
          refine ⟨⟨_, _, v1, v2, g1, g2, f1, f2⟩, fun z H3 yz => ?_⟩
          obtain ⟨T, z1, z2, rfl, nT, rfl, q1, q2⟩ := yz
          have := q1 _ g1; rw [f1] at this; cases this
          have := q2 _ g2; rw [f2] at this; cases this
          have ex := Ex.new (o := HO.tup [v1, v2]) nT
          exact ⟨ex, .tup (SqT.of upd_same) (.cons (p1.mono (S := fun _ => False) ex.kp (fun _ z => z.elim) fun _ z => .inl z) (.cons (p2.mono (S := fun _ => False) ex.kp (fun _ z => z.elim) fun _ z => .inl z) .nil))⟩
def enumD (ds : List D) : List D := ds.zipIdx.map fun p => D.tup [.int (p.2 : Nat), p.1]
def wEnum (ws : List WE) : WI := fun ρ Q => wArgs ws ρ fun ss ρ' => frzL ρ' ss fun ds ρ2 => match ds with
  | [.lst xs] => Q (enumD xs) ρ2
  | _ => False
open Classical in
noncomputable def pinH (H0 : Hp) (ρ : List Slot) (σ : L2.St) (H : Hp) : Hp := fun a => if Own ρ σ a then H0 a else H a
theorem pin_own {H0 : Hp} {ρ : List Slot} {σ : L2.St} {H : Hp} {a : Addr} (h : Own ρ σ a) : pinH H0 ρ σ H a = H0 a := if_pos h
theorem pin_not {H0 : Hp} {ρ : List Slot} {σ : L2.St} {H : Hp} {a : Addr} (h : ¬ Own ρ σ a) : pinH H0 ρ σ H a = H a := if_neg h
theorem Rep.own_mut {K : PySem.W.Frag} {B : Addr → Prop} {ρ : List Slot} {σ : L2.St} {H : Hp} {a : Addr} {o : HO} (R : Rep K B ρ σ H) (h : Own ρ σ a) (e : H a = some o) (i : isImm o) : False := by
  obtain ⟨j, b, o', e1, e2⟩ := h
  obtain ⟨a', e3, q⟩ := R.slot j _ e1
  rw [e2] at e3; cases e3
  cases o' with
  | lst ds => obtain ⟨xs, z, _⟩ := q; rw [z] at e; cases e; exact i
  | dct ds => obtain ⟨xs, z, _⟩ := q; rw [z] at e; cases e; exact i
  | obj c ds => obtain ⟨C, dx, xs, z, _⟩ := q; rw [z] at e; cases e; exact i
section
variable {K : PySem.W.Frag} {B : Addr → Prop} {H0 : Hp} {L : Nat → Addr → Prop} {ρ : List Slot} {σ : L2.St} {H : Hp}
theorem Fr.lent_own (F : Fr H0 L ρ σ H) {i : Nat} {a : Addr} (h : L i a) : Own ρ σ a := by
  obtain ⟨⟨o, e⟩, e2⟩ := (F.lent i a).1 h
  exact ⟨i, true, o, e, e2⟩
theorem Fr.pin (F : Fr H0 L ρ σ H) (R : Rep K B ρ σ H) : Fr (pinH H0 ρ σ H) L ρ σ H where
  keep := fun a o e n t => by
    by_cases h : Own ρ σ a
    · rw [pin_own h] at e; exact F.keep a o e n t
    · rw [pin_not h] at e; exact e
  imm := fun a o e i => by
    by_cases h : Own ρ σ a
    · rw [pin_own h] at e; exact F.imm a o e i
    · rw [pin_not h] at e; exact e
  trk := fun a e => by
    by_cases h : Own ρ σ a
    · exact R.own_trk h
    · rw [pin_not h] at e; exact e
  ownf := fun i o a e1 e2 => by rw [pin_own ⟨i, false, o, e1, e2⟩]; exact F.ownf i o a e1 e2
  lent := F.lent
theorem Fr.unpin {ρ2 : List Slot} {σ2 : L2.St} {H2 : Hp} (F : Fr H0 L ρ σ H) (F2 : Fr (pinH H0 ρ σ H) L ρ2 σ2 H2) : Fr H0 L ρ2 σ2 H2 where
  keep := fun a o e n t => F2.keep a o (by
    by_cases h : Own ρ σ a
    · rw [pin_own h]; exact e
    · rw [pin_not h]; exact F.keep a o e n t) n t
  imm := fun a o e i => F2.imm a o (by
    by_cases h : Own ρ σ a
    · rw [pin_own h]; exact e
    · rw [pin_not h]; exact F.imm a o e i) i
  trk := fun a e => F2.trk a (by
    by_cases h : Own ρ σ a
    · rw [pin_own h]; exact e
    · rw [pin_not h]; exact F.trk a e)
  ownf := fun i o a e1 e2 => by
    have z := F2.ownf i o a e1 e2
    by_cases h : Own ρ σ a
    · rw [pin_own h] at z; exact z
    · rw [pin_not h] at z
      cases q : H0 a with
      | none => rfl
      | some o' => exact absurd z (F.trk a (by rw [q]; exact nofun))
  lent := F2.lent
theorem Fr.pinned {ρ2 : List Slot} {σ2 : L2.St} {H2 : Hp} (F : Fr H0 L ρ σ H) (R : Rep K B ρ σ H) (F2 : Fr (pinH H0 ρ σ H) L ρ2 σ2 H2) : Kp0 (Av B ρ σ) H H2 where
  keep := fun a o e n t => F2.keep a o (by rw [pin_not fun z => n (.inl z)]; exact e) (fun i z => n (.inl (F.lent_own z))) t
  imm := fun a o e i => F2.imm a o (by rw [pin_not fun z => R.own_mut z e i]; exact e) i
theorem Fr.pinned_av {ρ2 : List Slot} {σ2 : L2.St} {H2 : Hp} (F : Fr H0 L ρ σ H) (F2 : Fr (pinH H0 ρ σ H) L ρ2 σ2 H2) (a : Addr) (z : Av B ρ2 σ2 a) : Av B ρ σ a ∨ H a = none := by
  rcases z with ⟨i, b, o, e1, e2⟩ | z
  · cases b with
    | true => exact .inl (.inl (F.lent_own ((F2.lent i a).2 ⟨⟨o, e1⟩, e2⟩)))
    | false =>
      have z := F2.ownf i o a e1 e2
      by_cases h : Own ρ σ a
      · exact .inl (.inl h)
      · rw [pin_not h] at z; exact .inr z
  · exact .inl (.inr z)
end
def loop (g : WG) (w : WS) (KD : DEnds) : List D → List Slot → Prop
  | [], ρ => KD.nx ρ
  | d :: ds, ρ => g d ρ fun ρ1 => w { nx := loop g w KD ds, ct := loop g w KD ds, bk := KD.nx, rt := KD.rt } ρ1
def wFor (wi : WI) (g : WG) (w : WS) : WS := fun KD ρ => wi ρ fun ds ρ1 => loop g w KD ds ρ1
theorem drop_cons {α : Type} {l : List α} {i : Nat} {x : α} (h : l[i]? = some x) : l.drop i = x :: l.drop (i + 1) := by
  obtain ⟨h1, rfl⟩ := List.getElem?_eq_some_iff.mp h
  exact List.drop_eq_getElem_cons h1
theorem ms_for {X : Cx} {tg iter : Expr} {body : List Stmt} {wi : WI} {js : List Nat} {g : WG} {w : WS} {pos : Pos} (hp : PassesOwn (model X.prog X.w) X.A X.env X.xe) (hc : X.calm = true) (hi : MI X tg iter wi) (hg : MG X tg js g) (hb : MSs X body w)
    (hs : ∀ x, foldedSetIterable iter X.env x = pure x := by intro _; rfl) : MS X (.For tg iter body [] pos) (wFor wi g w) := ms_of (ps_for hp hc hi hg hb hs) fun B H0 L ρ σ H KD D R F hw en => by
  refine ⟨B, ρ, _, R, hw, fun ds J ρ1 H1 R1 sub kp yl q => ?_⟩
  have F1 := F.step kp sub
  refine ⟨fun i m σ2 H2 => ∃ ρ2, m = ds.length - i ∧ i ≤ ds.length ∧ Rep X.K B ρ2 σ2 H2 ∧ Fr (pinH H0 ρ1 σ H1) L ρ2 σ2 H2 ∧ loop g w KD (ds.drop i) ρ2, ⟨ds.length, ρ1, rfl, Nat.zero_le _, R1, F1.pin R1, q⟩, ?_⟩
  rintro i m σ2 H2 ⟨ρ2, rfl, hi, R2, F2, q2⟩
  obtain ⟨y1, y2⟩ := yl (Av B ρ2 σ2) H2 (F1.pinned R1 F2) (F1.pinned_av F2) (fun a z => R2.av_trk z) i
  by_cases hlt : i < ds.length
  · have e := List.getElem?_eq_getElem hlt
    obtain ⟨go, y3⟩ := y2 _ e
    rw [drop_cons e] at q2
    refine .inr ⟨go, fun σ' H' => ∃ ρ', Rep X.K B ρ' σ' H' ∧ Fr (pinH H0 ρ1 σ H1) L ρ' σ' H' ∧ loop g w KD (ds.drop (i + 1)) ρ', fun σ' H' ⟨ρ', R', F', q'⟩ => ⟨_, by omega, ρ', rfl, hlt, R', F', q'⟩, fun x H3 yx => ?_⟩
    obtain ⟨ex, rv⟩ := y3 x H3 yx
    have R3 := R2.ex (B' := B) ex fun a z => .inl z
    have F3 := F2.step (ex.kp (S := Own ρ2 σ2)) (Sub.refl ρ2)
    refine ⟨B, _, L, ρ2, _, _, R3, F3, rv, q2, fun ρ4 σ4 R4 F4 _ _ _ q4 => ?_⟩
    exact ⟨B, _, L, ρ4, _, R4, F4, q4, ⟨fun ρ' σ' H' R' F' q' => ⟨ρ', R', F', q'⟩, fun ρ' σ' H' R' F' q' => en.nx ρ' σ' H' R' (F1.unpin F') q', fun ρ' σ' H' R' F' q' => ⟨ρ', R', F', q'⟩,
      fun s v ρ' σ' Ha H' post F' t q' => en.rt s v ρ' σ' Ha H' post (F1.unpin F') (fun a z => t a (by
        by_cases h : Own ρ1 σ a
        · rw [pin_own h]; exact z
        · rw [pin_not h]; exact F1.trk a z)) q'⟩⟩
  · have e : i = ds.length := by omega
    subst e
    rw [List.drop_length] at q2
    exact .inl ⟨y1 rfl, en.nx ρ2 σ2 H2 R2 (F1.unpin F2) q2⟩
def wWhile (t : WT) (w : WS) : WS := fun KD ρ => ∃ I : Nat → List Slot → Prop, (∃ m, I m ρ) ∧ ∀ m ρ', I m ρ' →
  t ρ' fun b ρ2 => if b = true then w { nx := fun ρ3 => ∃ m', m' < m ∧ I m' ρ3, ct := fun ρ3 => ∃ m', m' < m ∧ I m' ρ3, bk := KD.nx, rt := KD.rt } ρ2 else KD.nx ρ2
theorem ms_while {X : Cx} {c : Expr} {body : List Stmt} {t : WT} {w : WS} {pos : Pos} (hp : PassesOwn (model X.prog X.w) X.A X.env X.xe) (hc : MT X c t) (hb : MSs X body w) : MS X (.While c body [] pos) (wWhile t w) :=
  ms_of (ps_while hp hc hb) fun B H0 L ρ σ H KD D R F hw en => by
    obtain ⟨I, ⟨m0, i0⟩, step⟩ := hw
    refine ⟨fun m σ2 H2 => ∃ ρ2, Rep X.K B ρ2 σ2 H2 ∧ Fr H0 L ρ2 σ2 H2 ∧ I m ρ2, ⟨m0, ρ, R, F, i0⟩, ?_⟩
    rintro m σ2 H2 ⟨ρ2, R2, F2, i2⟩
    refine ⟨B, ρ2, _, R2, step m ρ2 i2, fun b ρ3 H3 R3 sub kp q => ?_⟩
    have F3 := F2.step kp sub
    cases b with
    | true =>
      refine ⟨fun σ' H' => ∃ ρ' m', Rep X.K B ρ' σ' H' ∧ Fr H0 L ρ' σ' H' ∧ m' < m ∧ I m' ρ', fun σ' H' ⟨ρ', m', R', F', hm, i'⟩ => ⟨m', hm, ρ', R', F', i'⟩, ?_⟩
      exact ⟨B, H0, L, ρ3, _, R3, F3, q, ⟨fun ρ' σ' H' R' F' ⟨m', hm, i'⟩ => ⟨ρ', m', R', F', hm, i'⟩, en.nx, fun ρ' σ' H' R' F' ⟨m', hm, i'⟩ => ⟨ρ', m', R', F', hm, i'⟩, en.rt⟩⟩
    | false => exact en.nx ρ3 σ2 H3 R3 F3 q
end Dl
namespace Dl
open PySem L2
variable [TabN]
theorem own_upd {ρ : List Slot} {σ : L2.St} {i : Nat} {b : Bool} {o o' : O} (h : ρ[i]? = some (.own b o)) (a : Addr) : Own (ρ.set i (.own b o')) σ a ↔ Own ρ σ a := by
  have hi := (List.getElem?_eq_some_iff.mp h).1
  constructor
  · rintro ⟨j, c, u, e1, e2⟩
    rcases getElem?_set_of e1 with ⟨rfl, z⟩ | ⟨n, z⟩
    · cases z; exact ⟨i, b, o, h, e2⟩
    · exact ⟨j, c, u, z, e2⟩
  · rintro ⟨j, c, u, e1, e2⟩
    by_cases n : i = j
    · subst n; rw [h] at e1; cases e1; exact ⟨i, b, o', by rw [List.getElem?_set_self hi], e2⟩
    · exact ⟨j, c, u, by rw [List.getElem?_set_ne n]; exact e1, e2⟩
theorem Kp.upd {S : Addr → Prop} {H : Hp} {a : Addr} {u : HO} (h : S a) (hm : ∀ o, H a = some o → ¬ isFix o) : Kp S H (L2.upd H a u) :=
  ⟨⟨fun x o e n _ => by rw [upd_ne (fun z => n (by rw [z]; exact h))]; exact e, fun x o e i => by rw [upd_ne (fun z => hm o (by rw [← z]; exact e) i.fix)]; exact e⟩, fun x e => by
    by_cases z : x = a
    · subst z; rw [upd_same]; exact nofun
    · rw [upd_ne z]; exact e, fun t => t.upd hm⟩
theorem OOk.mut {K : PySem.W.Frag} {A : Addr → Prop} {H : Hp} {a : Addr} {o : O} (h : OOk K A H a o) (u : HO) (e : H a = some u) : ¬ isFix u := by
  cases o with
  | lst ds => obtain ⟨xs, z, _⟩ := h; rw [z] at e; cases e; exact fun q => q
  | dct ds => obtain ⟨xs, z, _⟩ := h; rw [z] at e; cases e; exact fun q => q
  | obj c ds => obtain ⟨C, dx, xs, z, _⟩ := h; rw [z] at e; cases e; exact fun q => q
section
variable {K : PySem.W.Frag} {B : Addr → Prop} {ρ : List Slot} {σ : L2.St} {H : Hp} {i : Nat} {b : Bool} {o o' : O} {a : Addr} {u : HO}
theorem Rep.mut (R : Rep K B ρ σ H) (h : ρ[i]? = some (.own b o)) (ha : σ[i]? = some (some (.ref a))) (r : OOk K (Av B ρ σ) (L2.upd H a u) a o') :
    Rep K B (ρ.set i (.own b o')) σ (L2.upd H a u) ∧ Sub (ρ.set i (.own b o')) ρ ∧ Kp (Own ρ σ) H (L2.upd H a u) := by
  have hi := (List.getElem?_eq_some_iff.mp h).1
  have oa : Own ρ σ a := ⟨i, b, o, h, ha⟩
  have hm : ∀ x, H a = some x → ¬ isFix x := fun x e => by
    obtain ⟨a', e1, q⟩ := R.slot i _ h
    rw [ha] at e1; cases e1
    exact q.mut x e
  have kp : Kp (Own ρ σ) H (L2.upd H a u) := Kp.upd oa hm
  have av : ∀ x, Av B (ρ.set i (.own b o')) σ x → Av B ρ σ x ∨ H x = none := fun x z => .inl (z.elim (fun z => .inl ((own_upd h x).1 z)) .inr)
  refine ⟨⟨by rw [List.length_set]; exact R.len, fun j s e => ?_, fun j k c p c' p' x e1 e2 e3 e4 => ?_, fun x z => kp.trk x (R.btr x z), fun x z => R.dis x ((own_upd h x).1 z), kp.tab R.tabs⟩, ⟨fun j c p e => ?_, fun j p e => ?_⟩, kp⟩
  · rcases getElem?_set_of e with ⟨rfl, rfl⟩ | ⟨n, z⟩
    · exact ⟨a, ha, r.av fun x z => z.elim (fun z => .inl ((own_upd h x).1 z)) .inr⟩
    · have w := R.slot j s z
      cases s with
      | nil => trivial
      | fro d => obtain ⟨v, e1, q⟩ := w; exact ⟨v, e1, q.mono kp (fun x z => .inl z) av⟩
      | own c p =>
        obtain ⟨y, e1, q⟩ := w
        refine ⟨y, e1, ?_⟩
        have ya : y ≠ a := fun z' => n (R.inj i j b o c p a h z ha (by rw [e1, z']))
        exact q.mono (S := fun x => x = a) (Kp.upd rfl hm) (fun x z => by rw [z]; exact .inl oa) av ya
      | var k => exact w
  · have back : ∀ {m : Nat} {c : Bool} {p : O}, (ρ.set i (.own b o'))[m]? = some (.own c p) → ∃ p', ρ[m]? = some (.own c p') := fun {m c p} e => by
      rcases getElem?_set_of e with ⟨rfl, z⟩ | ⟨_, z⟩
      · cases z; exact ⟨o, h⟩
      · exact ⟨p, z⟩
    obtain ⟨p1, f1⟩ := back e1
    obtain ⟨p2, f2⟩ := back e2
    exact R.inj j k c p1 c' p2 x f1 f2 e3 e4
  · rcases getElem?_set_of e with ⟨rfl, z⟩ | ⟨_, z⟩
    · cases z; exact ⟨o, h⟩
    · exact ⟨p, z⟩
  · by_cases n : i = j
    · subst n; rw [h] at e; cases e; exact ⟨o', by rw [List.getElem?_set_self hi]⟩
    · exact ⟨p, by rw [List.getElem?_set_ne n]; exact e⟩
end
def kindO : O → String
  | .lst _ => "list"
  | .dct _ => "dict"
  | .obj _ _ => "instance"
theorem kind_ty {K : PySem.W.Frag} {A : Addr → Prop} {H : Hp} {a : Addr} {o : O} (hT : kindO o ≠ "instance") (h : OOk K A H a o) : tyV K (kindO o) (.ref a) H := by
  cases o with
  | lst ds => obtain ⟨xs, e, _⟩ := h; exact .inl ⟨rfl, xs, SqL.of e⟩
  | dct ds => obtain ⟨xs, e, _⟩ := h; exact .inr (.inr (.inl ⟨rfl, .inl ⟨xs, e⟩⟩))
  | obj c ds => exact absurd rfl hT
def wMt (T : String) (i : Nat) (ws : List WE) (g : O → List D → (O → D → Prop) → Prop) : WE := fun ρ Q => (∃ b o, ρ[i]? = some (Slot.own b o) ∧ kindO o = T) ∧ wArgs ws ρ fun ss ρ1 => frzL ρ1 ss fun ds ρ2 => match ρ2[i]? with
  | some (.own b o) => g o ds fun o' d => Q (.fro d) (ρ2.set i (.own b o'))
  | _ => False
def MutR (K : PySem.W.Frag) (r : V → List V → Hp → VK → Prop) (g : O → List D → (O → D → Prop) → Prop) : Prop := ∀ (A : Addr → Prop) (H : Hp) (a : Addr) (o : O) (vs : List V) (ds : List D) (k : O → D → Prop) (Q : VK), A a → OOk K A H a o → RepL K A H vs ds → g o ds k →
  (∀ o' d v u, k o' d → OOk K A (L2.upd H a u) a o' → RepV K A (L2.upd H a u) v d → Q v (L2.upd H a u)) → r (.ref a) vs H Q
theorem wMt_ok {K : PySem.W.Frag} {T : String} {r : V → List V → Hp → VK → Prop} {g : O → List D → (O → D → Prop) → Prop} {i : Nat} {ws : List WE} {B : Addr → Prop} {ρ : List Slot} {σ : L2.St} {H : Hp} {Q' : Slot → List Slot → Prop} {Q : VK} (hT : T ≠ "instance") (m : MutR K r g) (R : Rep K B ρ σ H) (hw : wMt T i ws g ρ Q')
    (hq : ∀ s v ρ' H', Post K B ρ' σ H H' s v → Sub ρ' ρ → Kp (Own ρ σ) H H' → Q' s ρ' → Q v H') : tBM K T r (tVar i) (taOf K ws) σ H Q := by
  obtain ⟨⟨b, o, h0, rfl⟩, hw⟩ := hw
  obtain ⟨a, ea, qa⟩ := R.slot i _ h0
  refine ⟨_, ea, kind_ty hT qa, args_frz R hw fun ds vs ρ2 H2 R2 r2 sub kp q => ?_⟩
  cases e : ρ2[i]? with
  | none => rw [e] at q; exact q.elim
  | some t =>
    rw [e] at q
    cases t with
    | own c p =>
      obtain ⟨a', e1, q1⟩ := R2.slot i _ e
      rw [ea] at e1; cases e1
      refine m (Av B ρ2 σ) H2 a p vs ds _ Q (.inl ⟨i, c, p, e, ea⟩) q1 r2 q fun o' d v u hk ho hv => ?_
      obtain ⟨R3, s3, k3⟩ := R2.mut (u := u) e ea ho
      exact hq _ _ _ _ (postF R3 (hv.av fun x z => z.elim (fun z => .inl ((own_upd e x).1 z)) .inr)) (sub.trans s3) (kp.trans k3 fun x z => sub.own x z) hk
    | nil => exact q.elim
    | fro d => exact q.elim
    | var j => exact q.elim
def gApp : O → List D → (O → D → Prop) → Prop
  | .lst ds, [d], k => ds.length < sizeLine ∧ k (.lst (ds ++ [d])) .non
  | _, _, _ => False
theorem mut_append {K : PySem.W.Frag} : MutR K rAppend gApp := fun A H a o vs ds k Q hA ho r hg hq => by
  match o, ds, hg, ho, r with
  | .lst ds, [d], ⟨hz, hk⟩, ⟨xs, e, rx⟩, .cons (v := v) r1 .nil =>
    refine ⟨a, xs, v, rfl, rfl, e, by rw [rx.length]; exact hz, ?_⟩
    have kp : Kp (fun x => x = a) H (L2.upd H a (.lst (xs ++ [v]))) := Kp.upd rfl fun o z => by rw [e] at z; cases z; exact fun q => q
    exact hq _ _ _ _ hk ⟨_, upd_same, (rx.mono kp (fun x z => by rw [z]; exact hA) fun x z => .inl z).append (.one (r1.mono kp (fun x z => by rw [z]; exact hA) fun x z => .inl z))⟩ .non
def gExt : O → List D → (O → D → Prop) → Prop
  | .lst ds, [.lst es], k => ds.length + es.length ≤ sizeLine ∧ k (.lst (ds ++ es)) .non
  | _, _, _ => False
section
variable {X : Cx} {o e : Expr} {es : List Expr} {i : Nat} {ws : List WE} {apos cpos : Pos} {T id : String} {name : Str} {r : V → List V → Hp → VK → Prop} {g : O → List D → (O → D → Prop) → Prop}
theorem me_mut (pa : PlainAttrs T) (slot : PySem.Slot T name id) (hty : typeOf (.builtin id) = pure (.type "method_descriptor")) (hm : MtR X id r) (m : MutR X.K r g) (ho : PE X o (tVar i)) (ha : MA X (e :: es) ws)
    (hbase : attributeBase o name X.env (eval o X.env) = eval o X.env := by rfl)
    (hfew : ((backTo cpos (starEach (e :: es) X.env)).all (fun x => !x.1) && (backToKw cpos (keywordEach [] X.env)).all (fun x => x.1.isSome)
      && decide ((e :: es).length + ([] : List Keyword).length + (if ([] : List Keyword).isEmpty then 0 else 1) < 30)) = true := by rfl)
    (hT : T ≠ "instance" := by decide) (hline : (apos.endLine == cpos.line) = true := by rfl) (hst : starEach (e :: es) X.env = (false, eval e X.env) :: starEach es X.env := by rfl) (hplain : (backTo cpos (starEach es X.env)).any (·.1) = false := by rfl) :
    ME X (.Call (.Attribute o name apos) (e :: es) [] cpos) (wMt T i ws g) :=
  me_of (pe_bm pa slot hty hm ho ha hbase hfew hline hst hplain) fun B ρ σ H Q' Q R hw hq => wMt_ok hT m R hw hq
end
def wApp (i : Nat) (w : WE) : WE := wMt "list" i [w] gApp
def wExt (i : Nat) (w : WE) : WE := wMt "list" i [w] gExt
def wSetIx (i : Nat) (wk w : WE) : WS := fun KD ρ => w ρ fun s ρ1 => frz ρ1 s fun d ρ2 => (∃ b o, ρ2[i]? = some (Slot.own b o)) ∧ wk ρ2 fun t ρ3 => match lookD ρ3 t with
  | some (.int k) => (match ρ3[i]? with
    | some (.own b (.lst ds)) => (match ixN ds.length k with
      | some j => KD.nx (ρ3.set i (.own b (.lst (ds.set j d))))
      | none => False)
    | _ => False)
  | _ => False
theorem ms_setIx {X : Cx} {o k e : Expr} {i : Nat} {wk w : WE} {pos tpos : Pos} (he : ME X e w) (ho : PE X o (tVar i)) (hk : ME X k wk)
    (ha : ∀ v, assign (.Subscript o k tpos) X.env v = (do
      let ov ← holding [v] (eval o X.env)
      let iv ← holding [v, ov] (eval k X.env)
      standAt tpos
      holding [v, ov, iv] (setItem ov iv v)
      release [v, ov, iv] []) := by intro _; rfl)
    (hs : swapsWithSole [.Subscript o k tpos] e pos.line X.env = pure false := by rfl) (hw : swappedStores [.Subscript o k tpos] e X.env = pure none := by rfl)
    (h1 : (assignEach [.Subscript o k tpos] X.env).map (·.2) = [assign (.Subscript o k tpos) X.env] := by rfl) : MS X (.Assign [.Subscript o k tpos] e pos) (wSetIx i wk w) :=
  ms_of (ps_asg he (pg_sub ho hk set_list ha) hs hw h1) fun B H0 L ρ σ H KD D R F hw en => by
    refine ⟨B, ρ, _, R, hw, fun s v ρ1 H1 post sub kp q => ?_⟩
    obtain ⟨B1, b1, b1', R1, P1⟩ := post.pend
    obtain ⟨d, ρ2, q2, R2, sub2, r2⟩ := frz_ok (B0 := B) R1 P1 b1 R.btr q
    have R3 := R2.fewer b1
    obtain ⟨⟨b, o, h0⟩, hwk⟩ := q2
    obtain ⟨a, ea, qa⟩ := R3.slot i _ h0
    have F3 := (F.step kp sub).step Kp.refl sub2
    refine ⟨_, ea, B, ρ2, _, R3, hwk, fun t y ρ3 H3 post3 sub3 kp3 q3 => ?_⟩
    obtain ⟨B4, b4, b4', R4, P4⟩ := post3.pend
    have R5 := R4.fewer b4
    have F5 := F3.step kp3 sub3
    have r5 : RepV X.K (Av B ρ3 σ) H3 v d := r2.mono kp3 (fun x z => .inl z) fun x z => .inl (z.elim (fun z => .inl (sub3.own x z)) .inr)
    cases el : lookD ρ3 t with
    | none => rw [el] at q3; exact q3.elim
    | some dk =>
      rw [el] at q3
      have sk := P4.sees R4 el
      match dk, q3, sk with
      | .int k, q3, sk =>
        cases sees_int sk
        cases e3 : ρ3[i]? with
        | none => simp only [e3] at q3
        | some u =>
          simp only [e3] at q3
          match u, e3, q3 with
          | .own c (.lst ds), e3, q3 =>
            cases ej : ixN ds.length k with
            | none => simp only [ej] at q3
            | some j =>
              simp only [ej] at q3
              obtain ⟨a', e4, xs, ex, rx⟩ := R5.slot i _ e3
              rw [ea] at e4; cases e4
              refine ⟨a, xs, k, j, rfl, rfl, ex, by rw [rx.length]; exact ej, ?_⟩
              have av : Av B ρ3 σ a := .inl ⟨i, c, _, e3, ea⟩
              have ku : Kp (fun x => x = a) H3 (L2.upd H3 a (.lst (xs.set j v))) := Kp.upd rfl fun o z => by rw [ex] at z; cases z; exact fun q => q
              obtain ⟨R6, s6, k6⟩ := R5.mut (u := .lst (xs.set j v)) (o' := .lst (ds.set j d)) e3 ea ⟨_, upd_same, ((rx.mono ku (fun x z => by rw [z]; exact av) fun x z => .inl z).set (r5.mono ku (fun x z => by rw [z]; exact av) fun x z => .inl z) j)⟩
              exact en.nx _ _ _ R6 (F5.step k6 s6) q3
def wPar (i j : Nat) (w1 w2 : WE) : WS := fun KD ρ => w1 ρ fun s1 ρ1 => w2 ρ1 fun s2 ρ2 => prep ρ2 s1 fun t1 ρ3 => prep ρ3 s2 fun t2 ρ4 => put i ρ4 t1 fun ρ5 => put j ρ5 t2 KD.nx
theorem ms_par {X : Cx} {i j : Nat} {x y : Str} {a b : Expr} {w1 w2 : WE} {px py pt pos : Pos} {kt k2 : Nat} {pt2 : Pos} (hc : X.calm = true) (hN : X.N.Nodup) (hi : X.N[i]? = some x) (hj : X.N[j]? = some y) (hij : i ≠ j)
    (hx : X.env.scope.names.lookup x = some .local) (hy : X.env.scope.names.lookup y = some .local) (ha : ME X a w1) (hb : ME X b w2)
    (hw : swappedStores [.Tuple [.Name x px, .Name y py] kt pt] (.Tuple [a, b] k2 pt2) X.env = pure (some [x, y]) := by rfl)
    (hs : swapsWithSole [.Tuple [.Name x px, .Name y py] kt pt] (.Tuple [a, b] k2 pt2) pos.line X.env = pure false := by rfl)
    (hs1 : starEach [a, b] X.env = (false, eval a X.env) :: starEach [b] X.env := by rfl) (hs2 : starEach [b] X.env = (false, eval b X.env) :: starEach [] X.env := by rfl) :
    MS X (.Assign [.Tuple [.Name x px, .Name y py] kt pt] (.Tuple [a, b] k2 pt2) pos) (wPar i j w1 w2) :=
  ms_of (ps_par hc hN hi hj hij hx hy (pa_cons ha (pa_cons hb pa_nil hs2) hs1) hw hs) fun B H0 L ρ σ H KD D R F hw en => by
    refine ⟨B, ρ, _, R, hw, fun s1 v ρ1 H1 post sub kp hw1 => ?_⟩
    obtain ⟨B1, b1, b1', R1, P1⟩ := post.pend
    refine ⟨B1, ρ1, _, R1, hw1, fun s2 u ρ2 H2 post2 sub2 kp2 q => ?_⟩
    obtain ⟨B2, b2, b2', R2, P2⟩ := post2.pend
    have P1' := P1.step R1 kp2 sub2 b2 b2'
    have F2 := (F.step kp sub).step kp2 sub2
    have nd : ∀ b o b' o', s1 = .own b o → s2 = .own b' o' → v ≠ u := fun b o b' o' e1 e2 z => by
      subst e1 e2
      obtain ⟨a1, rfl, m1, m2, _⟩ := P1
      obtain ⟨a2, e, n1, n2, _⟩ := P2
      rw [e] at z; cases z
      exact R1.btr _ m1 n2
    obtain ⟨t1, ρ3, q3, R3, sub3, P3, nv1, o1⟩ := prep_ok (B0 := B) R2 P1' q
    have P2' := (P2.start kp).step R2 Kp.refl sub3 (fun _ z => z) fun _ z => .inl z
    obtain ⟨t2, ρ4, q4, R4, sub4, P4, nv2, o2⟩ := prep_ok (B0 := B) R3 P2' q3
    have P3' := P3.step R3 Kp.refl sub4 (fun _ z => z) fun _ z => .inl z
    have F4 := (F2.step Kp.refl sub3).step Kp.refl sub4
    have hs : ∀ a, H a = none → H0 a = none := fun a z => by
      cases e : H0 a with
      | none => rfl
      | some o => exact absurd z (F.trk a (by rw [e]; exact nofun))
    obtain ⟨B5, ρ5, q5, R5, F5, c5, d5, keep⟩ := put_ok R4 F4 P3' hs q4
    have P5 := keep t2 u P4 nv2 fun b o b' o' e1 e2 => nd b o b' o' (o1 _ _ e1) (o2 _ _ e2)
    obtain ⟨B6, ρ6, q6, R6, F6, c6, d6, _⟩ := put_ok R5 F5 P5 hs q5
    refine ⟨v, u, rfl, en.nx ρ6 _ H2 (R6.fewer fun a z => ?_) F6 q6⟩
    rcases d5 a (b2 a (b1 a z)) with z' | z'
    · rcases d6 a z' with z' | z'
      · exact z'
      · exact absurd z' (R.btr a z)
    · exact absurd z' (R.btr a z)
end Dl
namespace Dl
open PySem L2
variable [TabN]
def wipeD (ρ : List Slot) : List Nat → List Slot
  | [] => ρ
  | v :: vs => (wipeD ρ vs).set v .nil
def back (ρ ρ' : List Slot) : List Nat → List Slot
  | [] => ρ'
  | v :: vs => (back ρ ρ' vs).set v ((ρ[v]?).getD .nil)
def clean (ρ : List Slot) : List Nat → Prop
  | [] => True
  | v :: vs => (match ρ[v]? with
    | some (.own _ _) => False
    | _ => True) ∧ clean ρ vs
theorem clean_no {ρ : List Slot} : ∀ {vs : List Nat} {i : Nat} {b : Bool} {o : O}, clean ρ vs → i ∈ vs → ρ[i]? ≠ some (.own b o)
  | v :: vs, i, b, o, h, hm, e => by
    rcases List.mem_cons.mp hm with rfl | hm
    · have := h.1; rw [e] at this; exact this
    · exact clean_no h.2 hm e
theorem clean_of {ρ : List Slot} : ∀ {vs : List Nat}, (∀ (i : Nat) (b : Bool) (o : O), i ∈ vs → ρ[i]? ≠ some (.own b o)) → clean ρ vs
  | [], _ => trivial
  | v :: vs, h => ⟨by
    cases e : ρ[v]? with
    | none => trivial
    | some s => cases s with
      | own b o => exact h v b o (by simp) e
      | _ => trivial, clean_of fun i b o hm => h i b o (List.mem_cons_of_mem _ hm)⟩
theorem wipeD_len (ρ : List Slot) : ∀ vs : List Nat, (wipeD ρ vs).length = ρ.length
  | [] => rfl
  | v :: vs => by rw [wipeD, List.length_set, wipeD_len ρ vs]
theorem wipeD_out {ρ : List Slot} {i : Nat} : ∀ {vs : List Nat}, i ∉ vs → (wipeD ρ vs)[i]? = ρ[i]?
  | [], _ => rfl
  | v :: vs, h => by
    rw [wipeD, List.getElem?_set_ne (fun z => h (by subst z; simp)), wipeD_out (fun z => h (List.mem_cons_of_mem _ z))]
theorem wipeD_in {ρ : List Slot} {i : Nat} {s : Slot} : ∀ {vs : List Nat}, i ∈ vs → (wipeD ρ vs)[i]? = some s → s = .nil
  | v :: vs, hm, e => by
    rw [wipeD] at e
    rcases getElem?_set_of e with ⟨_, z⟩ | ⟨n, z⟩
    · exact z
    · exact wipeD_in ((List.mem_cons.mp hm).elim (fun z => absurd z.symm n) id) z
theorem back_len (ρ ρ' : List Slot) : ∀ vs : List Nat, (back ρ ρ' vs).length = ρ'.length
  | [] => rfl
  | v :: vs => by rw [back, List.length_set, back_len ρ ρ' vs]
theorem back_out {ρ ρ' : List Slot} {i : Nat} : ∀ {vs : List Nat}, i ∉ vs → (back ρ ρ' vs)[i]? = ρ'[i]?
  | [], _ => rfl
  | v :: vs, h => by
    rw [back, List.getElem?_set_ne (fun z => h (by subst z; simp)), back_out (fun z => h (List.mem_cons_of_mem _ z))]
theorem back_in {ρ ρ' : List Slot} {i : Nat} {s : Slot} : ∀ {vs : List Nat}, i ∈ vs → (back ρ ρ' vs)[i]? = some s → s = (ρ[i]?).getD .nil
  | v :: vs, hm, e => by
    rw [back] at e
    rcases getElem?_set_of e with ⟨rfl, z⟩ | ⟨n, z⟩
    · exact z
    · exact back_in ((List.mem_cons.mp hm).elim (fun z => absurd z.symm n) id) z
theorem wipe_in {σ : L2.St} {i : Nat} {x : Option V} : ∀ {vs : List Nat}, i ∈ vs → (wipe σ vs)[i]? = some x → x = none
  | v :: vs, hm, e => by
    rw [wipe] at e
    rcases getElem?_set_of e with ⟨_, z⟩ | ⟨n, z⟩
    · exact z
    · exact wipe_in ((List.mem_cons.mp hm).elim (fun z => absurd z.symm n) id) z
theorem wipe_eq {σ σ' : L2.St} {vs : List Nat} (h : ∀ j, j ∉ vs → σ'[j]? = σ[j]?) (hl : σ'.length = σ.length) : wipe σ' vs = wipe σ vs := by
  refine List.ext_getElem? fun j => ?_
  by_cases hj : j ∈ vs
  · cases e : (wipe σ' vs)[j]? with
    | none =>
      have : (wipe σ vs)[j]? = none := by
        rw [List.getElem?_eq_none_iff] at e ⊢
        rw [wipe_length] at e ⊢
        omega
      rw [this]
    | some x =>
      obtain rfl := wipe_in hj e
      cases e2 : (wipe σ vs)[j]? with
      | none =>
        have h1 := (List.getElem?_eq_some_iff.mp e).1
        rw [List.getElem?_eq_none_iff, wipe_length] at e2
        rw [wipe_length] at h1
        omega
      | some y => obtain rfl := wipe_in hj e2; rfl
  · rw [wipe_out hj, wipe_out hj, h j hj]
theorem own_wipe {ρ : List Slot} {σ : L2.St} {vs : List Nat} (c : clean ρ vs) (a : Addr) : Own (wipeD ρ vs) (wipe σ vs) a ↔ Own ρ σ a := by
  constructor
  · rintro ⟨i, b, o, e1, e2⟩
    by_cases hi : i ∈ vs
    · cases wipeD_in hi e1
    · rw [wipeD_out hi] at e1; rw [wipe_out hi] at e2; exact ⟨i, b, o, e1, e2⟩
  · rintro ⟨i, b, o, e1, e2⟩
    have hi : i ∉ vs := fun z => clean_no c z e1
    exact ⟨i, b, o, by rw [wipeD_out hi]; exact e1, by rw [wipe_out hi]; exact e2⟩
theorem Rep.wiped {K : PySem.W.Frag} {B : Addr → Prop} {ρ : List Slot} {σ : L2.St} {H : Hp} {vs : List Nat} (R : Rep K B ρ σ H) (c : clean ρ vs) : Rep K B (wipeD ρ vs) (wipe σ vs) H := by
  have av : ∀ a, Av B (wipeD ρ vs) (wipe σ vs) a → Av B ρ σ a := fun a z => z.elim (fun z => .inl ((own_wipe c a).1 z)) .inr
  refine ⟨by rw [wipeD_len, wipe_length]; exact R.len, fun i s e => ?_, fun i j b o b' o' a e1 e2 e3 e4 => ?_, R.btr, fun a z => R.dis a ((own_wipe c a).1 z), R.tabs⟩
  · by_cases hi : i ∈ vs
    · cases wipeD_in hi e; trivial
    · rw [wipeD_out hi] at e
      rw [wipe_out hi]
      have w := R.slot i s e
      cases s with
      | nil => trivial
      | fro d => obtain ⟨v, e1, r⟩ := w; exact ⟨v, e1, r.av av⟩
      | own b o => obtain ⟨a, e1, r⟩ := w; exact ⟨a, e1, r.av av⟩
      | var k => exact w
  · have h1 : i ∉ vs := fun z => by cases wipeD_in z e1
    have h2 : j ∉ vs := fun z => by cases wipeD_in z e2
    rw [wipeD_out h1] at e1; rw [wipeD_out h2] at e2; rw [wipe_out h1] at e3; rw [wipe_out h2] at e4
    exact R.inj i j b o b' o' a e1 e2 e3 e4
theorem Rep.unwiped {K : PySem.W.Frag} {B : Addr → Prop} {ρ ρ' : List Slot} {σ σ' : L2.St} {H H' : Hp} {vs : List Nat} (R : Rep K B ρ σ H) (R' : Rep K B ρ' σ' H') (c : clean ρ vs) (c' : clean ρ' vs) (kp : Kp (Own ρ σ) H H')
    (hσ : ∀ j, j ∉ vs → σ'[j]? = σ[j]?) (hl : σ'.length = σ.length) (ho : ∀ a, Own ρ' σ' a → Own ρ σ a) : Rep K B (back ρ ρ' vs) σ H' ∧ ∀ a, Own (back ρ ρ' vs) σ a ↔ Own ρ' σ' a := by
  have no : ∀ {i : Nat} {b : Bool} {o : O}, (back ρ ρ' vs)[i]? = some (.own b o) → i ∉ vs := fun {i b o} e z => by
    have w := back_in z e
    cases q : ρ[i]? with
    | none => rw [q] at w; cases w
    | some s => rw [q] at w; have w : Slot.own b o = s := w; rw [← w] at q; exact clean_no c z q
  have own : ∀ a, Own (back ρ ρ' vs) σ a ↔ Own ρ' σ' a := fun a => by
    constructor
    · rintro ⟨i, b, o, e1, e2⟩
      have hi := no e1
      rw [back_out hi] at e1
      exact ⟨i, b, o, e1, by rw [hσ i hi]; exact e2⟩
    · rintro ⟨i, b, o, e1, e2⟩
      have hi : i ∉ vs := fun z => clean_no c' z e1
      exact ⟨i, b, o, by rw [back_out hi]; exact e1, by rw [← hσ i hi]; exact e2⟩
  have av : ∀ a, Av B (back ρ ρ' vs) σ a → Av B ρ' σ' a := fun a z => z.elim (fun z => .inl ((own a).1 z)) .inr
  refine ⟨⟨by rw [back_len, R'.len]; exact hl, fun i s e => ?_, fun i j b o b' o' a e1 e2 e3 e4 => ?_, R'.btr, fun a z => R'.dis a ((own a).1 z), R'.tabs⟩, own⟩
  · by_cases hi : i ∈ vs
    · have w := back_in hi e
      cases q : ρ[i]? with
      | none => rw [q] at w; cases w; trivial
      | some t =>
        rw [q] at w
        have w : s = t := w
        subst w
        have z := R.slot i s q
        cases s with
        | nil => trivial
        | fro d =>
          obtain ⟨v, e1, r⟩ := z
          exact ⟨v, e1, r.mono kp (fun a z => .inl z) fun a z => .inl (z.elim (fun z => .inl (ho a ((own a).1 z))) .inr)⟩
        | own b o => exact absurd q (clean_no c hi)
        | var k => exact z
    · rw [back_out hi] at e
      have z := R'.slot i s e
      rw [hσ i hi] at z
      cases s with
      | nil => trivial
      | fro d => obtain ⟨v, e1, r⟩ := z; exact ⟨v, e1, r.av av⟩
      | own b o => obtain ⟨a, e1, r⟩ := z; exact ⟨a, e1, r.av av⟩
      | var k => exact z
  · have h1 := no e1
    have h2 := no e2
    rw [back_out h1] at e1; rw [back_out h2] at e2
    rw [← hσ i h1] at e3; rw [← hσ j h2] at e4
    exact R'.inj i j b o b' o' a e1 e2 e3 e4
theorem Rep.updB {K : PySem.W.Frag} {B : Addr → Prop} {ρ : List Slot} {σ : L2.St} {H : Hp} {a : Addr} {xs ys : List V} (R : Rep K B ρ σ H) (hb : B a) (e : H a = some (.lst xs)) : Rep K B ρ σ (L2.upd H a (.lst ys)) := by
  have kp : Kp (fun x => x = a) H (L2.upd H a (.lst ys)) := Kp.upd rfl fun o z => by rw [e] at z; cases z; exact fun q => q
  have hs : ∀ x, x = a → Av B ρ σ x := fun x z => by rw [z]; exact .inr hb
  refine ⟨R.len, fun i s h => ?_, R.inj, fun x z => kp.trk x (R.btr x z), R.dis, kp.tab R.tabs⟩
  have w := R.slot i s h
  cases s with
  | nil => trivial
  | fro d => obtain ⟨v, e1, r⟩ := w; exact ⟨v, e1, r.mono kp hs fun x z => .inl z⟩
  | own b o => obtain ⟨y, e1, r⟩ := w; exact ⟨y, e1, r.mono kp hs (fun x z => .inl z) fun z => R.dis y ⟨i, b, o, h, e1⟩ (by rw [z]; exact hb)⟩
  | var k => exact w
theorem Fr.any {ρ : List Slot} {σ : L2.St} {H : Hp} : Fr (fun _ => none) (fun i a => (∃ o : O, ρ[i]? = some (.own true o)) ∧ σ[i]? = some (some (.ref a))) ρ σ H :=
  { keep := fun a o e _ _ => (nomatch e), imm := fun a o e _ => (nomatch e), trk := fun a e => absurd rfl e, ownf := fun i o a _ _ => rfl, lent := fun i a => Iff.rfl }
def MTs (X : Cx) (ifs : List Expr) (t : WT) : Prop := PTs X ifs (ttOf X.K t)
def wYes : WT := fun ρ Q => Q true ρ
theorem mts_nil {X : Cx} : MTs X [] wYes := ⟨fun pins s σ H Q I ⟨B, ρ, Q', R, hw, hq⟩ => pts_nil.run pins s σ H Q I (hq true ρ H R (Sub.refl ρ) Kp.refl hw)⟩
theorem mts_one {X : Cx} {c : Expr} {t : WT} (h : MT X c t) : MTs X [c] t := pts_one h
def lcBody (t : WT) (e : WE) (ρ : List Slot) (vs : List Nat) (k1 : D → List Slot → Prop) (k0 : List Slot → Prop) : List Slot → Prop := fun ρ2 => t ρ2 fun b ρ3 => if b = true then e ρ3 fun s ρ4 => frz ρ4 s fun x ρ5 => k1 x (back ρ ρ5 vs) else k0 (back ρ ρ3 vs)
def lcl (g : WG) (t : WT) (e : WE) (vs : List Nat) (Q : List D → List Slot → Prop) : List D → List Slot → List D → Prop
  | [], ρ, acc => Q acc ρ
  | d :: ds, ρ, acc => g d (wipeD ρ vs) (lcBody t e ρ vs (fun x ρ5 => acc.length < sizeLine ∧ lcl g t e vs Q ds ρ5 (acc ++ [x])) fun ρ3 => lcl g t e vs Q ds ρ3 acc)
def wLc (wi : WI) (g : WG) (t : WT) (e : WE) (vs : List Nat) : WE := fun ρ Q => wi ρ fun ds ρ1 => clean ρ1 vs ∧ lcl g t e vs (fun acc ρ2 => Q (.own false (.lst acc)) ρ2) ds ρ1 []
structure Acc (K : PySem.W.Frag) (B : Addr → Prop) (D : Addr) (ρ : List Slot) (σ : L2.St) (H : Hp) (acc : List Dl.D) : Prop where
  rep : Rep K B ρ σ H
  bd : B D
  at' : ∃ xs, H D = some (.lst xs) ∧ RepL K (Av B ρ σ) H xs acc
theorem Acc.step {K : PySem.W.Frag} {B : Addr → Prop} {D : Addr} {ρ ρ' : List Slot} {σ : L2.St} {H H' : Hp} {acc : List Dl.D} (A : Acc K B D ρ σ H acc) (R : Rep K B ρ' σ H') (k : Kp (Own ρ σ) H H') (sub : ∀ a, Own ρ' σ a → Own ρ σ a) : Acc K B D ρ' σ H' acc := by
  obtain ⟨xs, e, r⟩ := A.at'
  exact ⟨R, A.bd, xs, k.keep _ _ e (fun z => A.rep.dis D z A.bd), r.mono k (fun a z => .inl z) fun a z => .inl (z.elim (fun z => .inl (sub a z)) .inr)⟩
theorem Acc.push {K : PySem.W.Frag} {B : Addr → Prop} {D : Addr} {ρ : List Slot} {σ : L2.St} {H : Hp} {acc : List Dl.D} {y : V} {d : Dl.D} (A : Acc K B D ρ σ H acc) (ry : RepV K (Av B ρ σ) H y d) :
    ∃ xs, H D = some (.lst xs) ∧ xs.length = acc.length ∧ Acc K B D ρ σ (L2.upd H D (.lst (xs ++ [y]))) (acc ++ [d]) := by
  obtain ⟨xs, e, r⟩ := A.at'
  have kp : Kp (fun x => x = D) H (L2.upd H D (.lst (xs ++ [y]))) := Kp.upd rfl fun o z => by rw [e] at z; cases z; exact fun q => q
  have hs : ∀ x, x = D → Av B ρ σ x := fun x z => by rw [z]; exact .inr A.bd
  exact ⟨xs, e, r.length, A.rep.updB A.bd e, A.bd, _, upd_same, (r.mono kp hs fun x z => .inl z).append (.one (ry.mono kp hs fun x z => .inl z))⟩
theorem lcTurn {K : PySem.W.Frag} {B : Addr → Prop} {ρ : List Slot} {σ : L2.St} {H H3 : Hp} {js vs : List Nat} {g : WG} {t : WT} {e : WE} {d : D} {x : V} {k1 : D → List Slot → Prop} {k0 : List Slot → Prop} {Q1 : V → Hp → Prop} {Q0 : Hp → Prop}
    (hj : ∀ j, j ∈ js → j ∈ vs) (R : Rep K B ρ σ H) (c : clean ρ vs) (ex : Ex H H3) (rv : RepV K (Av B ρ σ) H3 x d) (hg : g d (wipeD ρ vs) (lcBody t e ρ vs k1 k0))
    (h1 : ∀ y u ρ' H', Rep K B ρ' σ H' → clean ρ' vs → Sub ρ' ρ → Kp (Own ρ σ) H H' → RepV K (Av B ρ' σ) H' y u → k1 u ρ' → Q1 y H')
    (h0 : ∀ ρ' H', Rep K B ρ' σ H' → clean ρ' vs → Sub ρ' ρ → Kp (Own ρ σ) H H' → k0 ρ' → Q0 H') :
    gOf K js g x (wipe σ vs) H3 fun σ2 H2 => wipe σ2 vs = wipe σ vs ∧ ttOf K t σ2 H2 fun b H4 => if b = true then tOf K e σ2 H4 fun y H5 => Q1 y H5 else Q0 H4 := by
  have R3 := R.ex (B' := B) ex fun a z => .inl z
  have R4 := R3.wiped c
  refine ⟨B, _, _, _, d, _, R4, Fr.any, rv.av (fun a z => z.elim (fun z => .inl ((own_wipe c a).1 z)) .inr), hg, fun ρ5 σ5 R5 F5 out inn hl q => ?_⟩
  have hσ : ∀ j, j ∉ vs → σ5[j]? = σ[j]? := fun j hn => by rw [(out j fun z => hn (hj j z)).1, wipe_out hn]
  have hl5 : σ5.length = σ.length := by rw [hl, wipe_length]
  have hρ : ∀ j, j ∉ vs → ρ5[j]? = ρ[j]? := fun j hn => by rw [(out j fun z => hn (hj j z)).2, wipeD_out hn]
  have no5 : ∀ (j : Nat) (b : Bool) (o : O), j ∈ vs → ρ5[j]? ≠ some (.own b o) := fun j b o hm z => by
    by_cases hjj : j ∈ js
    · exact inn j b o hjj z
    · rw [(out j hjj).2] at z; cases wipeD_in hm z
  have own5 : ∀ a, Own ρ5 σ5 a → Own ρ σ a := fun a ⟨j, b, o, e1, e2⟩ => by
    have hn : j ∉ vs := fun z => no5 j b o z e1
    exact ⟨j, b, o, by rw [← hρ j hn]; exact e1, by rw [← hσ j hn]; exact e2⟩
  have k3 : Kp (Own ρ σ) H H3 := ex.kp
  -- from a state within the block to one behind it
  have fin : ∀ {ρ6 : List Slot} {H6 : Hp}, Rep K B ρ6 σ5 H6 → Sub ρ6 ρ5 → Kp (Own ρ5 σ5) H3 H6 → Rep K B (back ρ ρ6 vs) σ H6 ∧ clean (back ρ ρ6 vs) vs ∧ Sub (back ρ ρ6 vs) ρ ∧ Kp (Own ρ σ) H H6 ∧ ∀ a, Own (back ρ ρ6 vs) σ a ↔ Own ρ6 σ5 a := fun {ρ6 H6} R6 s6 k6 => by
    have c6 : clean ρ6 vs := clean_of fun i b o hm z => by
      obtain ⟨o', z'⟩ := s6.old i b o z
      exact no5 i b o' hm z'
    have k36 := k3.trans k6 own5
    obtain ⟨Rb, ob⟩ := R.unwiped R6 c c6 k36 hσ hl5 (fun a z => own5 a (s6.own a z))
    refine ⟨Rb, clean_of fun i b o hm z => ?_, ⟨fun i b o z => ?_, fun i o z => ?_⟩, k36, ob⟩
    · have w := back_in hm z
      cases q : ρ[i]? with
      | none => rw [q] at w; cases w
      | some s => rw [q] at w; have w : Slot.own b o = s := w; rw [← w] at q; exact clean_no c hm q
    · have hn : i ∉ vs := fun hm => by
        have w := back_in hm z
        cases q : ρ[i]? with
        | none => rw [q] at w; cases w
        | some s => rw [q] at w; have w : Slot.own b o = s := w; rw [← w] at q; exact clean_no c hm q
      rw [back_out hn] at z
      obtain ⟨o', z'⟩ := s6.old i b o z
      exact ⟨o', by rw [← hρ i hn]; exact z'⟩
    · have hn : i ∉ vs := fun hm => clean_no c hm z
      obtain ⟨o', z'⟩ := s6.lent i o (by rw [hρ i hn]; exact z)
      exact ⟨o', by rw [back_out hn]; exact z'⟩
  refine ⟨wipe_eq hσ hl5, B, ρ5, _, R5, q, fun b ρ6 H6 R6 s6 k6 q6 => ?_⟩
  cases b with
  | false =>
    obtain ⟨a1, a2, a3, a4, _⟩ := fin R6 s6 k6
    exact h0 _ _ a1 a2 a3 a4 q6
  | true =>
    refine ⟨B, ρ6, _, R6, q6, fun s y ρ7 H7 post s7 k7 q7 => ?_⟩
    obtain ⟨B8, b8, b8', R8, P8⟩ := post.pend
    obtain ⟨u, ρ9, q9, R9, s9, r9⟩ := frz_ok (B0 := B) R8 P8 b8 R6.btr q7
    obtain ⟨a1, a2, a3, a4, a5⟩ := fin (R9.fewer b8) ((s6.trans s7).trans s9) (k6.trans k7 fun a z => s6.own a z)
    exact h1 _ u _ _ a1 a2 a3 a4 (r9.av fun a z => z.elim (fun z => .inl ((a5 a).1 z)) .inr) q9
theorem lc_weak {K : PySem.W.Frag} {wi : WI} {g : WG} {t : WT} {e : WE} {js vs : List Nat} (hj : ∀ j, j ∈ js → j ∈ vs) {σ : L2.St} {H : Hp} {Q : VK} (h : tOf K (wLc wi g t e vs) σ H Q) : tLc (iOf K wi) (gOf K js g) (ttOf K t) (tOf K e) vs σ H Q := by
  obtain ⟨B, ρ, Q', R, hw, hq⟩ := h
  refine ⟨B, ρ, _, R, hw, fun ds J ρ1 H1 R1 sub kp yl ⟨cl, q⟩ Dd nD => ?_⟩
  have exD := Ex.new (o := HO.lst []) nD
  have nB : ¬ B Dd := fun z => R1.btr Dd z nD
  have nO : ¬ Own ρ1 σ Dd := fun z => R1.own_trk z nD
  refine ⟨fun i m H2 => ∃ ρ2 acc, m = ds.length - i ∧ i ≤ ds.length ∧ Acc K (fun x => B x ∨ x = Dd) Dd ρ2 σ H2 acc ∧ Sub ρ2 ρ1 ∧ Kp (fun a => Own ρ1 σ a ∨ a = Dd) (L2.upd H1 Dd (.lst [])) H2 ∧ clean ρ2 vs ∧ lcl g t e vs (fun acc ρ2 => Q' (.own false (.lst acc)) ρ2) (ds.drop i) ρ2 acc,
    ⟨ds.length, ρ1, [], rfl, Nat.zero_le _, ⟨R1.ex exD fun a z => z.elim .inl fun z => .inr ⟨by rw [z]; exact nD, by rw [z, upd_same]; exact nofun⟩, .inr rfl, [], upd_same, .nil⟩, Sub.refl ρ1, Kp.refl, cl, q⟩, ?_⟩
  rintro i m H2 ⟨ρ2, acc, rfl, hi, A2, s2, k2, c2, q2⟩
  have k12 : Kp0 (Av B ρ1 σ) H1 H2 := ⟨fun a o z n t => k2.keep a o (exD a o z) (fun w => w.elim (fun w => n (.inl w)) fun w => (by rw [w, nD] at z; cases z)) t, fun a o z im => k2.imm a o (exD a o z) im⟩
  obtain ⟨y1, y2⟩ := yl (Av (fun x => B x ∨ x = Dd) ρ2 σ) H2 k12 (fun a z => by
    rcases z with z | z | z
    · exact .inl (.inl (s2.own a z))
    · exact .inl (.inr z)
    · exact .inr (by rw [z]; exact nD)) (fun a z => A2.rep.av_trk z) i
  by_cases hlt : i < ds.length
  · have e0 := List.getElem?_eq_getElem hlt
    obtain ⟨go, y3⟩ := y2 _ e0
    rw [drop_cons e0] at q2
    refine .inr ⟨go, fun H' => ∃ ρ' acc', Acc K (fun x => B x ∨ x = Dd) Dd ρ' σ H' acc' ∧ Sub ρ' ρ1 ∧ Kp (fun a => Own ρ1 σ a ∨ a = Dd) (L2.upd H1 Dd (.lst [])) H' ∧ clean ρ' vs ∧ lcl g t e vs (fun acc ρ2 => Q' (.own false (.lst acc)) ρ2) (ds.drop (i + 1)) ρ' acc', fun H' ⟨ρ', acc', z1, z2, z3, z4, z5⟩ => ⟨_, by omega, ρ', acc', rfl, hlt, z1, z2, z3, z4, z5⟩, fun x H3 yx => ?_⟩
    obtain ⟨ex3, rv⟩ := y3 x H3 yx
    refine lcTurn hj A2.rep c2 ex3 rv q2 (fun y u ρ' H' R' c' s' k' ry hk => ?_) fun ρ' H' R' c' s' k' hk => ?_
    · have A3 := A2.step R' k' (fun a z => s'.own a z)
      obtain ⟨xs, ex, exl, A4⟩ := A3.push ry
      refine ⟨xs, ex, by rw [exl]; exact hk.1, ρ', _, A4, s2.trans s', (k2.trans k' fun a z => .inl (s2.own a z)).trans (Kp.upd (.inr rfl) fun o z => by rw [ex] at z; cases z; exact fun q => q) fun a z => z, c', hk.2⟩
    · exact ⟨ρ', acc, A2.step R' k' (fun a z => s'.own a z), s2.trans s', k2.trans k' fun a z => .inl (s2.own a z), c', hk⟩
  · have e0 : i = ds.length := by omega
    subst e0
    rw [List.drop_length] at q2
    obtain ⟨xs, ex, rx⟩ := A2.at'
    refine .inl ⟨y1 rfl, hq _ _ ρ2 H2 (postO (b := false) (o := .lst acc) (kp.back nD) nB A2.rep ⟨xs, ex, rx⟩) (sub.trans s2) ?_ q2⟩
    refine ⟨⟨fun a o z n t => k2.keep a o (exD a o (kp.keep a o z n t)) (fun w => w.elim (fun w => n (sub.own a w)) fun w => ?_) t, fun a o z im => k2.imm a o (exD a o (kp.imm a o z im)) im⟩, fun a z => k2.trk a (exD.kp (S := fun _ => False) |>.trk a (kp.trk a z)), fun _ => A2.rep.tabs⟩
    have := kp.back (p := a) (by rw [w]; exact nD)
    rw [z] at this; cases this
section
variable {X : Cx} {elt tg iter : Expr} {ifs : List Expr} {scope : Scope} {own : List (Str × Nat)} {pos spos : Pos} {wi : WI} {g : WG} {js : List Nat} {t : WT} {e : WE}
theorem me_lc (hc : X.calm = true) (hN : X.N.Nodup) (hi : MI X tg iter wi) (ok : BlkOk X.N X.env.scope scope own) (hj : ∀ j, j ∈ js → j ∈ own.map (·.2))
    (hg : ∀ (s : Shared) (H : Hp) (C : Addr) (cl : List (Str × Addr)) (fp : List Addr), MG (X.blk s H scope (compEnvC scope cl C X.env) fp) tg js g)
    (ht : ∀ (s : Shared) (H : Hp) (C : Addr) (cl : List (Str × Addr)) (fp : List Addr), MTs (X.blk s H scope (compEnvC scope cl C X.env) fp) ifs t)
    (he : ∀ (s : Shared) (H : Hp) (C : Addr) (cl : List (Str × Addr)) (fp : List Addr), ME (X.blk s H scope (compEnvC scope cl C X.env) fp) elt e) (hs : ∀ x, foldedSetIterable iter X.env x = pure x := by intro _; rfl) :
    ME X (.ListComp elt [⟨tg, iter, ifs, 0⟩] scope pos) (wLc wi g t e (own.map (·.2))) := PE_weak (pe_lc (g := gOf X.K js g) (tt := ttOf X.K t) (te := tOf X.K e) hc hN hi ok hg ht he hs) fun σ H Q h => lc_weak hj h
theorem ms_setLc {i : Nat} {y : Str} {py : Pos} (hc : X.calm = true) (hN : X.N.Nodup) (hy : X.N[i]? = some y) (hyl : X.env.scope.names.lookup y = some .local)
    (hsw : swapsWith (.ListComp elt [⟨tg, iter, ifs, 0⟩] scope pos) (some (.Name y py)) spos.line X.env = pure true) (hi : MI X tg iter wi) (ok : BlkOk X.N X.env.scope scope own) (hj : ∀ j, j ∈ js → j ∈ own.map (·.2))
    (hg : ∀ (s : Shared) (H : Hp) (C : Addr) (cl : List (Str × Addr)) (fp : List Addr), MG (X.blk s H scope (compEnvC scope cl C X.env) fp) tg js g)
    (ht : ∀ (s : Shared) (H : Hp) (C : Addr) (cl : List (Str × Addr)) (fp : List Addr), MTs (X.blk s H scope (compEnvC scope cl C X.env) fp) ifs t)
    (he : ∀ (s : Shared) (H : Hp) (C : Addr) (cl : List (Str × Addr)) (fp : List Addr), ME (X.blk s H scope (compEnvC scope cl C X.env) fp) elt e) (hs : ∀ x, foldedSetIterable iter X.env x = pure x := by intro _; rfl) :
    MS X (.Assign [.Name y py] (.ListComp elt [⟨tg, iter, ifs, 0⟩] scope pos) spos) (wSet i (wLc wi g t e (own.map (·.2)))) :=
  ms_of (ps_setLc (g := gOf X.K js g) (tt := ttOf X.K t) (te := tOf X.K e) hc hN hy hyl hsw hi ok hg ht he hs) fun B H0 L ρ σ H KD D R F hw en => lc_weak hj (wSet_ok R F hw en.nx)
end
end Dl
namespace Dl
open PySem L2
variable [TabN]
structure FnG (P : Program) (w : World) (K : PySem.W.Frag) (mg : Str → Option Value) (base : Heap) (CX : CXT) (k : Nat) (f : Addr) (fd : FuncData) (ps : List Str) (sp : Sp) : Prop where
  len : ∀ vs H Q E, sp vs H Q E → vs.length = ps.length
  run : ∀ (A : Around) (outer : List Env) (s : Shared) (H : Hp) (args : Args) (us : List Value) (vs : List V) (Q : VK) (E : XK), Room k A → A.guards = some [] →
    Env0 P w K mg base A outer s H → BindsTo s fd args (ps.zip us) → Vals vs us → sp vs H Q E → codeAny (model P w) A (.call (.ref f) args) (CR CX outer P w H s Q E) s
theorem FnG.mono {P : Program} {w : World} {K : PySem.W.Frag} {mg : Str → Option Value} {base : Heap} {CX : CXT} {j k : Nat} {f : Addr} {fd : FuncData} {ps : List Str} {sp : Sp} (F : FnG P w K mg base CX j f fd ps sp) (h : j ≤ k) : FnG P w K mg base CX k f fd ps sp :=
  ⟨F.len, fun A outer s H args us vs Q E hr => F.run A outer s H args us vs Q E (hr.mono h)⟩
section
variable {X : Cx} {CX : CXT} {k : Nat} {f : Addr} {fd : FuncData} {ps ks : List Str} {sp : Sp} {dvs : List V} {dus : List Value} {E : XK} {x : Str} {p pos : Pos} {e : Expr} {es : List Expr} {t tk : TA}
theorem run_g {pins : List (Addr × Obj)} {σ : L2.St} {H : Hp} {s : Shared} {Q : VK} {us : List Value} {vs : List V} (F : FnG X.prog X.w X.K X.mg X.base CX k f fd ps sp) (hr : Room k X.A) (hgu : X.A.guards = some []) (hb : Binds X.K fd ps dus) (hd : Vals dvs dus) (hx : Passes CX X E)
    (I : Inv X pins σ H s) (r : Vals vs us) (h : sp (vs ++ dvs) H Q E) : wpAny (model X.prog X.w) X.A (call (.ref f) us) (EP X pins σ Q) X.xe s := by
  have r2 := Vals.append r hd
  have hl := r2.length.symm.trans (F.len _ _ _ _ h)
  refine wpAny_call (codeAny_mono (F.run X.A X.stack s H ⟨us, []⟩ (us ++ dus) (vs ++ dvs) Q E hr hgu I.env0 (hb s us I.kIn hl) r2 h) fun res s' hq => ?_)
  match res, hq with
  | .ok (.ret u), hq => exact I.after hq
  | .ok .next, hq => exact hq.elim
  | .ok .brk, hq => exact hq.elim
  | .ok .cont, hq => exact hq.elim
  | .error e, hq => exact hx pins σ H s e s' I hq
theorem pe_callG (F : FnG X.prog X.w X.K X.mg X.base CX k f fd ps sp) (hr : Room k X.A) (hgu : X.A.guards = some []) (hg : Gl X x) (hm : X.mg x = some (.ref f)) (hk : PySem.W.keepIn X.K (.ref f) = true) (hb : Binds X.K fd ps dus) (hd : Vals dvs dus) (hx : Passes CX X E)
    (ha : PA X (e :: es) t) (hdb : (x == ("__debug__" : Str)) = false := by decide) (he : starEach (e :: es) X.env = (false, eval e X.env) :: starEach es X.env := by rfl) (hpl : (backTo pos (starEach es X.env)).any (·.1) = false := by rfl) :
    PE X (.Call (.Name x p) (e :: es) [] pos) (tCall sp dvs E t) := ⟨fun pins s σ H Q I h =>
  wpAny_Call_Name_kw (ld_glob I hg hm (PySem.W.callWith_K (h₀ := X.base) I.ok.mod.kin hk (thn (ha.run pos pins s σ H _ I h) fun us s1 ⟨vs, H1, I1, r, q⟩ => ⟨I1.kIn, run_g F hr hgu hb hd hx I1 r q⟩) he hpl) hdb)⟩
variable {kws : List Keyword} {gU : List Value → List Value → List Value} {gV : List V → List V → List V}
end
def spOf (K : PySem.W.Frag) (n : Nat) (C : WE) : Sp := fun vs H Q _ => vs.length = n ∧ tOf K C (vs.map some) H Q
def wCall (C : WE) (ws : List WE) : WE := fun ρ Q => wArgs ws ρ fun ss ρ1 => frzL ρ1 ss fun ds ρ2 => ds.length = ws.length ∧ C (ds.map .fro) fun r _ => match r with
  | .fro d => Q (.fro d) ρ2
  | .own _ o => Q (.own false o) ρ2
  | _ => False
theorem repL_rep {K : PySem.W.Frag} {A : Addr → Prop} {H : Hp} (ht : ∀ a, A a → H a ≠ none) (tb : TabsN H) : ∀ {vs : List V} {ds : List D}, RepL K A H vs ds → Rep K A (ds.map .fro) (vs.map some) H := fun {vs ds} r => by
  have no : ∀ a, ¬ Own (ds.map .fro) (vs.map some) a := fun a ⟨i, b, o, e, _⟩ => by
    rw [List.getElem?_map] at e
    cases q : ds[i]? with
    | none => rw [q] at e; cases e
    | some d => rw [q] at e; cases e
  refine ⟨by rw [List.length_map, List.length_map, r.length], fun i s e => ?_, fun i j b o b' o' a e _ _ _ => ?_, ht, fun a z => (no a z).elim, tb⟩
  · rw [List.getElem?_map] at e
    cases q : ds[i]? with
    | none => rw [q] at e; cases e
    | some d =>
      rw [q] at e
      cases e
      obtain ⟨v, e1, rv⟩ := r.get q
      exact ⟨v, by rw [List.getElem?_map, e1]; rfl, rv.av fun a z => z.elim (fun z => (no a z).elim) id⟩
  · rw [List.getElem?_map] at e
    cases q : ds[i]? with
    | none => rw [q] at e; cases e
    | some d => rw [q] at e; cases e
section
variable {K : PySem.W.Frag} {C : WE} {B : Addr → Prop} {ρ : List Slot} {σ : L2.St} {H : Hp}
theorem call_ok {ws : List WE} {Q' : Slot → List Slot → Prop} {Q : VK} {E : XK} (R : Rep K B ρ σ H) (hw : wCall C ws ρ Q') (hq : ∀ s v ρ' H', Post K B ρ' σ H H' s v → Sub ρ' ρ → Kp (Own ρ σ) H H' → Q' s ρ' → Q v H') :
    taOf K ws σ H fun vs H1 => spOf K ws.length C (vs ++ []) H1 Q E := by
  refine args_frz R hw fun ds vs ρ2 H2 R2 r sub kp ⟨hl, hC⟩ => ?_
  rw [List.append_nil]
  refine ⟨by rw [r.length]; exact hl, Av B ρ2 σ, ds.map .fro, _, repL_rep (fun a z => R2.av_trk z) R2.tabs r, hC, fun s v ρ' H' post _ k3 h => ?_⟩
  have ex : Kp (fun _ => False) H2 H' := k3.mono fun a ⟨i, b, o', e1, _⟩ => by
    rw [List.getElem?_map] at e1
    cases q : ds[i]? with
    | none => rw [q] at e1; cases e1
    | some d => rw [q] at e1; cases e1
  have k' : Kp (Own ρ σ) H H' := kp.trans (ex.mono fun _ z => z.elim) fun _ z => z
  match s, post, h with
  | .fro d, post, h => exact hq _ _ ρ2 H' (postF (R2.same ex fun a z => .inl z) (post.2.av fun a z => .inr z)) sub k' h
  | .own b o, ⟨a, hv, n, nb, R', q⟩, h =>
    subst hv
    refine hq _ _ ρ2 H' (postO (b := false) (kp.back n) (fun z => R2.btr a z n) (R2.same ex fun x z => z.elim .inl fun z => .inr ⟨by rw [z]; exact n, by rw [z]; exact q.trk⟩) (q.av fun x z => ?_)) sub k' h
    rcases z with z | z | z
    · exact .inr (.inl (.inl z))
    · exact .inr (.inl (.inr z))
    · exact .inr (.inr z)
end
section
variable {X : Cx} {CX : CXT} {k : Nat} {f : Addr} {fd : FuncData} {ps : List Str} {E : XK} {x : Str} {p pos : Pos} {e : Expr} {es : List Expr} {ws : List WE} {C : WE} {n : Nat}
theorem me_call (F : FnG X.prog X.w X.K X.mg X.base CX k f fd ps (spOf X.K n C)) (hr : Room k X.A) (hgu : X.A.guards = some []) (hg : Gl X x) (hm : X.mg x = some (.ref f)) (hk : PySem.W.keepIn X.K (.ref f) = true) (hb : Binds X.K fd ps []) (hx : Passes CX X E)
    (ha : MA X (e :: es) ws) (hn : ws.length = n := by rfl) (hdb : (x == ("__debug__" : Str)) = false := by decide) (he : starEach (e :: es) X.env = (false, eval e X.env) :: starEach es X.env := by rfl) (hpl : (backTo pos (starEach es X.env)).any (·.1) = false := by rfl) :
    ME X (.Call (.Name x p) (e :: es) [] pos) (wCall C ws) := by
  subst hn
  exact me_of (pe_callG F hr hgu hg hm hk hb .nil hx ha hdb he hpl) fun B ρ σ H Q' Q R hw hq => call_ok R hw hq
end
end Dl
namespace Dl
open PySem L2
variable [TabN]
theorem Rep.mutK {K : PySem.W.Frag} {B B' : Addr → Prop} {ρ : List Slot} {σ : L2.St} {H H' : Hp} {i : Nat} {b : Bool} {o o' : O} {a : Addr} (R : Rep K B ρ σ H) (h : ρ[i]? = some (.own b o)) (ha : σ[i]? = some (some (.ref a))) (kp : Kp (fun x => x = a) H H')
    (hb : ∀ x, B' x → B x ∨ (H x = none ∧ H' x ≠ none)) (r : OOk K (Av B' ρ σ) H' a o') : Rep K B' (ρ.set i (.own b o')) σ H' ∧ Sub (ρ.set i (.own b o')) ρ ∧ Kp (Own ρ σ) H H' := by
  have hi := (List.getElem?_eq_some_iff.mp h).1
  have oa : Own ρ σ a := ⟨i, b, o, h, ha⟩
  have ow := fun x => own_upd (σ := σ) (o' := o') h x
  have av0 : ∀ x, Av B' (ρ.set i (.own b o')) σ x → Av B' ρ σ x := fun x z => z.elim (fun z => .inl ((ow x).1 z)) .inr
  have av : ∀ x, Av B' (ρ.set i (.own b o')) σ x → Av B ρ σ x ∨ H x = none := fun x z => (av0 x z).elim (fun z => .inl (.inl z)) fun z => (hb x z).elim (fun z => .inl (.inr z)) fun z => .inr z.1
  have hs : ∀ x, x = a → Av B ρ σ x := fun x z => by rw [z]; exact .inl oa
  refine ⟨⟨by rw [List.length_set]; exact R.len, fun j s e => ?_, fun j k c p c' p' x e1 e2 e3 e4 => ?_, fun x z => (hb x z).elim (fun z => kp.trk x (R.btr x z)) fun z => z.2, fun x z w => ?_, kp.tab R.tabs⟩, ⟨fun j c p e => ?_, fun j p e => ?_⟩, kp.mono fun x z => by rw [z]; exact oa⟩
  · rcases getElem?_set_of e with ⟨rfl, rfl⟩ | ⟨n, z⟩
    · exact ⟨a, ha, r.av av0⟩
    · have w := R.slot j s z
      cases s with
      | nil => trivial
      | fro d => obtain ⟨v, e1, q⟩ := w; exact ⟨v, e1, q.mono kp hs av⟩
      | own c p =>
        obtain ⟨y, e1, q⟩ := w
        exact ⟨y, e1, q.mono kp hs av fun z' => n (R.inj i j b o c p a h z ha (by rw [e1, z']))⟩
      | var k => exact w
  · have bk : ∀ {m : Nat} {c : Bool} {p : O}, (ρ.set i (.own b o'))[m]? = some (.own c p) → ∃ p', ρ[m]? = some (.own c p') := fun {m c p} e => by
      rcases getElem?_set_of e with ⟨rfl, z⟩ | ⟨_, z⟩
      · cases z; exact ⟨o, h⟩
      · exact ⟨p, z⟩
    obtain ⟨p1, f1⟩ := bk e1
    obtain ⟨p2, f2⟩ := bk e2
    exact R.inj j k c p1 c' p2 x f1 f2 e3 e4
  · have z' := (ow x).1 z
    rcases hb x w with w | w
    · exact R.dis x z' w
    · exact R.own_trk z' w.1
  · rcases getElem?_set_of e with ⟨rfl, z⟩ | ⟨_, z⟩
    · cases z; exact ⟨o, h⟩
    · exact ⟨p, z⟩
  · by_cases n : i = j
    · subst n; rw [h] at e; cases e; exact ⟨o', by rw [List.getElem?_set_self hi]⟩
    · exact ⟨p, by rw [List.getElem?_set_ne n]; exact e⟩
def wCallP (C : WE) (i : Nat) (ws : List WE) : WE := fun ρ Q => (∃ b o, ρ[i]? = some (Slot.own b o)) ∧ wArgs ws ρ fun ss ρ1 => frzL ρ1 ss fun ds ρ2 => ds.length = ws.length ∧ match ρ2[i]? with
  | some (.own b o) => C (.own true o :: ds.map .fro) fun r outs => match outs with
    | .own true o' :: _ => (match r with
      | .fro d => Q (.fro d) (ρ2.set i (.own b o'))
      | .own _ u => Q (.own false u) (ρ2.set i (.own b o'))
      | _ => False)
    | _ => False
  | _ => False
section
variable {K : PySem.W.Frag} {C : WE} {B : Addr → Prop} {ρ : List Slot} {σ : L2.St} {H : Hp}
theorem rep_lent {a : Addr} {o : O} {A : Addr → Prop} {vs : List V} {ds : List D} (ht : ∀ x, A x → H x ≠ none) (tb : TabsN H) (ha : OOk K A H a o) (hA : ∀ x, x = a → A x) (r : RepL K A H vs ds) :
    Rep K (fun x => A x ∧ x ≠ a) (.own true o :: ds.map .fro) (some (.ref a) :: vs.map some) H ∧ ∀ x, Own (.own true o :: ds.map .fro) (some (.ref a) :: vs.map some) x → x = a := by
  have no : ∀ (i : Nat) (b : Bool) (o' : O), (ds.map Slot.fro)[i]? ≠ some (.own b o') := fun i b o' e => by
    rw [List.getElem?_map] at e
    cases q : ds[i]? with
    | none => rw [q] at e; cases e
    | some d => rw [q] at e; cases e
  have own : ∀ x, Own (.own true o :: ds.map .fro) (some (.ref a) :: vs.map some) x → x = a := fun x ⟨i, b, o', e1, e2⟩ => by
    cases i with
    | zero => cases e2; rfl
    | succ i => exact absurd e1 (by simpa using no i b o')
  have av : ∀ x, Av (fun x => A x ∧ x ≠ a) (.own true o :: ds.map .fro) (some (.ref a) :: vs.map some) x → A x := fun x z => z.elim (fun z => hA x (own x z)) fun z => z.1
  refine ⟨⟨by simp [r.length], fun i s e => ?_, fun i j b o1 b' o2 x e1 e2 _ _ => ?_, fun x z => ht x z.1, fun x z w => w.2 (own x z), tb⟩, own⟩
  · cases i with
    | zero => cases e; exact ⟨a, rfl, ha.av av⟩
    | succ i =>
      have e' : (ds.map Slot.fro)[i]? = some s := by simpa using e
      rw [List.getElem?_map] at e'
      cases q : ds[i]? with
      | none => rw [q] at e'; cases e'
      | some d =>
        rw [q] at e'
        cases e'
        obtain ⟨v, e1, rv⟩ := r.get q
        exact ⟨v, by simp [e1], rv.av av⟩
  · cases i with
    | zero => cases j with
      | zero => rfl
      | succ j => exact absurd e2 (by simpa using no j b' o2)
    | succ i => exact absurd e1 (by simpa using no i b o1)
theorem callP_ok {i : Nat} {ws : List WE} {Q' : Slot → List Slot → Prop} {Q : VK} {E : XK} (R : Rep K B ρ σ H) (hw : wCallP C i ws ρ Q') (hq : ∀ s v ρ' H', Post K B ρ' σ H H' s v → Sub ρ' ρ → Kp (Own ρ σ) H H' → Q' s ρ' → Q v H') :
    tCons (tVar i) (taOf K ws) σ H fun vs H1 => spOf K (ws.length + 1) C (vs ++ []) H1 Q E := by
  obtain ⟨⟨b0, o0, h0⟩, hw⟩ := hw
  obtain ⟨a, ea, _⟩ := R.slot i _ h0
  refine ⟨.ref a, ea, args_frz R hw fun ds vs ρ2 H2 R2 r sub kp ⟨hl, hC⟩ => ?_⟩
  cases e2 : ρ2[i]? with
  | none => rw [e2] at hC; exact hC.elim
  | some t =>
    rw [e2] at hC
    match t, e2, hC with
    | .own b o, e2, hC =>
      obtain ⟨a', ea', q0⟩ := R2.slot i _ e2
      rw [ea] at ea'; cases ea'
      have oa : Own ρ2 σ a := ⟨i, b, o, e2, ea⟩
      obtain ⟨Ra, ow⟩ := rep_lent (fun x z => R2.av_trk z) R2.tabs q0 (fun x z => by rw [z]; exact .inl oa) r
      rw [List.append_nil]
      refine ⟨by simp [r.length, hl], _, _, _, Ra, hC, fun s v outs H' post so k3 h => ?_⟩
      have ka : Kp (fun x => x = a) H2 H' := k3.mono ow
      have Ro := post.rep
      match outs, so, h, post, Ro with
      | .own true o' :: outs, so, h, post, Ro =>
        obtain ⟨a1, e1, q1⟩ := Ro.slot 0 _ rfl
        cases e1
        have inc : ∀ x, Av B ρ2 σ x → Av (fun x => Av B ρ2 σ x ∧ x ≠ a) (.own true o' :: outs) (some (.ref a) :: vs.map some) x := fun x z => by
          by_cases hx : x = a
          · subst hx; exact .inl ⟨0, true, o', rfl, rfl⟩
          · exact .inr ⟨z, hx⟩
        have up : ∀ x, Av B (ρ2.set i (.own b o')) σ x → Av B ρ2 σ x := fun x z => z.elim (fun z => .inl ((own_upd e2 x).1 z)) .inr
        match s, post, h with
        | .fro d, post, h =>
          obtain ⟨R5, s5, k5⟩ := R2.mutK (B' := B) e2 ea ka (fun x z => .inl z) (q1.av inc)
          exact hq _ _ _ _ (postF R5 (post.2.av fun x z => inc x (up x z))) (sub.trans s5) (kp.trans k5 fun x z => sub.own x z) h
        | .own c u, ⟨a2, hv, n, nb, R4, q4⟩, h =>
          subst hv
          obtain ⟨a1, e1, q1⟩ := R4.slot 0 _ rfl
          cases e1
          have inc2 : ∀ x, Av (fun x => B x ∨ x = a2) ρ2 σ x → Av (fun x => (Av B ρ2 σ x ∧ x ≠ a) ∨ x = a2) (.own true o' :: outs) (some (.ref a) :: vs.map some) x := fun x z => by
            by_cases hx : x = a
            · subst hx; exact .inl ⟨0, true, o', rfl, rfl⟩
            · rcases z with z | z | z
              · exact .inr (.inl ⟨.inl z, hx⟩)
              · exact .inr (.inl ⟨.inr z, hx⟩)
              · exact .inr (.inr z)
          have up2 : ∀ x, Av (fun x => B x ∨ x = a2) (ρ2.set i (.own b o')) σ x → Av (fun x => B x ∨ x = a2) ρ2 σ x := fun x z => z.elim (fun z => .inl ((own_upd e2 x).1 z)) .inr
          obtain ⟨R5, s5, k5⟩ := R2.mutK (B' := fun x => B x ∨ x = a2) e2 ea ka (fun x z => z.elim .inl fun z => .inr (by rw [z]; exact ⟨n, q4.trk⟩)) (q1.av inc2)
          exact hq _ _ _ _ (postO (b := false) (kp.back n) (fun z => R2.btr a2 z n) R5 (q4.av fun x z => inc2 x (up2 x z))) (sub.trans s5) (kp.trans k5 fun x z => sub.own x z) h
def wCallN (C : WE) (w : WE) : WE := fun ρ Q => w ρ fun s ρ1 => match s with
  | .own _ o => C [.own true o] fun r outs => (match outs with
    | .own true _ :: _ => (match r with
      | .fro d => Q (.fro d) ρ1
      | .own _ u => Q (.own false u) ρ1
      | _ => False)
    | _ => False)
  | _ => False
theorem callN_ok {w : WE} {Q' : Slot → List Slot → Prop} {Q : VK} {E : XK} (R : Rep K B ρ σ H) (hw : wCallN C w ρ Q') (hq : ∀ s v ρ' H', Post K B ρ' σ H H' s v → Sub ρ' ρ → Kp (Own ρ σ) H H' → Q' s ρ' → Q v H') :
    tCons (tOf K w) tNil σ H fun vs H1 => spOf K 1 C (vs ++ []) H1 Q E := by
  refine ⟨B, ρ, _, R, hw, fun s v ρ1 H1 post sub kp hC => ?_⟩
  match s, post, hC with
  | .own b o, ⟨a, hv, n, nb, R1, q0⟩, hC =>
    subst hv
    have hA : ∀ x, x = a → Av (fun x => B x ∨ x = a) ρ1 σ x := fun x z => .inr (.inr z)
    obtain ⟨Ra, ow⟩ := rep_lent (vs := []) (ds := []) (fun x z => R1.av_trk z) R1.tabs q0 hA .nil
    refine ⟨rfl, _, _, _, Ra, hC, fun s v outs H' post so k3 h => ?_⟩
    have ka : Kp (fun x => x = a) H1 H' := k3.mono ow
    have na : ¬ Own ρ1 σ a := fun z => R1.dis a z (.inr rfl)
    -- the caller's own things are as they were
    have rep : ∀ B' : Addr → Prop, (∀ x, B' x → B x ∨ (H1 x = none ∧ H' x ≠ none)) → Rep K B' ρ1 σ H' := fun B' hb => by
      have hs : ∀ x, x = a → Av (fun x => B x ∨ x = a) ρ1 σ x := hA
      have av : ∀ x, Av B' ρ1 σ x → Av (fun x => B x ∨ x = a) ρ1 σ x ∨ H1 x = none := fun x z => z.elim (fun z => .inl (.inl z)) fun z => (hb x z).elim (fun z => .inl (.inr (.inl z))) fun z => .inr z.1
      refine ⟨R1.len, fun j s e => ?_, R1.inj, fun x z => (hb x z).elim (fun z => ka.trk x (R1.btr x (.inl z))) fun z => z.2, fun x z w => (hb x w).elim (fun w => R1.dis x z (.inl w)) fun w => R1.own_trk z w.1, ka.tab R1.tabs⟩
      have w := R1.slot j s e
      cases s with
      | nil => trivial
      | fro d => obtain ⟨v, e1, q⟩ := w; exact ⟨v, e1, q.mono ka hs av⟩
      | own c p => obtain ⟨y, e1, q⟩ := w; exact ⟨y, e1, q.mono ka hs av fun z' => na (by rw [← z']; exact ⟨j, c, p, e, e1⟩)⟩
      | var k => exact w
    have k' : Kp (Own ρ σ) H H' := ⟨⟨fun x o z m t => ka.keep x o (kp.keep x o z m t) (fun e => (by rw [e] at z; rw [n] at z; cases z)) t, fun x o z m => ka.imm x o (kp.imm x o z m) m⟩, fun x z => ka.trk x (kp.trk x z), fun t => ka.tab (kp.tab t)⟩
    match outs, so, h, post with
    | .own true o' :: outs, so, h, post =>
      have inc : ∀ x, Av B ρ1 σ x → Av (fun x => Av (fun x => B x ∨ x = a) ρ1 σ x ∧ x ≠ a) (.own true o' :: outs) (some (.ref a) :: [].map some) x := fun x z => by
        by_cases hx : x = a
        · subst hx; exact .inl ⟨0, true, o', rfl, rfl⟩
        · exact .inr ⟨z.elim .inl fun z => .inr (.inl z), hx⟩
      match s, post, h with
      | .fro d, post, h => exact hq _ _ ρ1 H' (postF (rep B fun x z => .inl z) (post.2.av inc)) sub k' h
      | .own c u, ⟨a2, hv, n2, nb2, R4, q4⟩, h =>
        subst hv
        refine hq _ _ ρ1 H' (postO (b := false) (kp.back n2) (fun z => R1.btr a2 (.inl z) n2) (rep _ fun x z => z.elim .inl fun z => .inr (by rw [z]; exact ⟨n2, q4.trk⟩)) (q4.av fun x z => ?_)) sub k' h
        by_cases hx : x = a
        · subst hx; exact .inl ⟨0, true, o', rfl, rfl⟩
        · rcases z with z | z | z
          · exact .inr (.inl ⟨.inl z, hx⟩)
          · exact .inr (.inl ⟨.inr (.inl z), hx⟩)
          · exact .inr (.inr z)
end
section
variable {X : Cx} {CX : CXT} {k : Nat} {f : Addr} {fd : FuncData} {ps : List Str} {E : XK} {x : Str} {p pos : Pos} {e : Expr} {es : List Expr} {w : WE} {ws : List WE} {C : WE} {n i : Nat}
theorem me_callP (F : FnG X.prog X.w X.K X.mg X.base CX k f fd ps (spOf X.K n C)) (hr : Room k X.A) (hgu : X.A.guards = some []) (hg : Gl X x) (hm : X.mg x = some (.ref f)) (hk : PySem.W.keepIn X.K (.ref f) = true) (hb : Binds X.K fd ps []) (hx : Passes CX X E)
    (h0 : PE X e (tVar i)) (ha : MA X es ws) (hn : ws.length + 1 = n := by rfl) (hdb : (x == ("__debug__" : Str)) = false := by decide) (he : starEach (e :: es) X.env = (false, eval e X.env) :: starEach es X.env := by rfl) (hpl : (backTo pos (starEach es X.env)).any (·.1) = false := by rfl) :
    ME X (.Call (.Name x p) (e :: es) [] pos) (wCallP C i ws) := by
  subst hn
  exact me_of (pe_callG F hr hgu hg hm hk hb .nil hx (pa_cons h0 ha he) hdb he hpl) fun B ρ σ H Q' Q R hw hq => callP_ok R hw hq
theorem me_callN (F : FnG X.prog X.w X.K X.mg X.base CX k f fd ps (spOf X.K 1 C)) (hr : Room k X.A) (hgu : X.A.guards = some []) (hg : Gl X x) (hm : X.mg x = some (.ref f)) (hk : PySem.W.keepIn X.K (.ref f) = true) (hb : Binds X.K fd ps []) (hx : Passes CX X E)
    (h0 : ME X e w) (hdb : (x == ("__debug__" : Str)) = false := by decide) (he : starEach [e] X.env = (false, eval e X.env) :: starEach [] X.env := by rfl) (hpl : (backTo pos (starEach [] X.env)).any (·.1) = false := by rfl) :
    ME X (.Call (.Name x p) [e] [] pos) (wCallN C w) :=
  me_of (pe_callG F hr hgu hg hm hk hb .nil hx (pa_cons h0 pa_nil he) hdb he hpl) fun B ρ σ H Q' Q R hw hq => callN_ok R hw hq
end
end Dl
namespace Dl
open PySem L2
variable [TabN]
def outsOf : List Slot → List Slot → List Slot
  | [], _ => []
  | .own true _ :: as, s :: ρ => s :: outsOf as ρ
  | a :: as, _ :: ρ => a :: outsOf as ρ
  | a :: as, [] => a :: outsOf as []
def leave (ρ : List Slot) : Slot → (Slot → List Slot → Prop) → Prop
  | .fro d, k => k (.fro d) ρ
  | .own _ o, k => k (.own false o) ρ
  | .var i, k => (match ρ[i]? with
    | some (.own false o) => k (.own false o) (ρ.set i .nil)
    | some (.fro d) => k (.fro d) ρ
    | _ => False)
  | .nil, _ => False
def endsOf (args : List Slot) (Q : Slot → List Slot → Prop) : DEnds where
  nx := fun ρ => Q (.fro .non) (outsOf args ρ)
  rt := fun s ρ => leave ρ s fun s' ρ' => Q s' (outsOf args ρ')
  bk := fun _ => False
  ct := fun _ => False
def noOwn (args : List Slot) : Prop := ∀ (i : Nat) (o : O), args[i]? ≠ some (.own false o)
theorem outsOf_get : ∀ {as ρ : List Slot} {i : Nat} {a : Slot}, as[i]? = some a → (outsOf as ρ)[i]? = some (match a with
    | .own true o => (ρ[i]?).getD (.own true o)
    | a => a)
  | a :: as, s :: ρ, 0, x, e => by
    cases e
    cases a with
    | own b o => cases b <;> rfl
    | _ => rfl
  | a :: as, [], 0, x, e => by
    cases e
    cases a with
    | own b o => cases b <;> rfl
    | _ => rfl
  | a :: as, s :: ρ, i + 1, x, e => by
    have e' : as[i]? = some x := by simpa using e
    have ih := outsOf_get (ρ := ρ) e'
    cases a with
    | own b o => cases b <;> simpa [outsOf] using ih
    | nil => simpa [outsOf] using ih
    | fro d => simpa [outsOf] using ih
    | var j => simpa [outsOf] using ih
  | a :: as, [], i + 1, x, e => by
    have e' : as[i]? = some x := by simpa using e
    have ih := outsOf_get (ρ := []) e'
    cases a with
    | own b o => cases b <;> simpa [outsOf] using ih
    | nil => simpa [outsOf] using ih
    | fro d => simpa [outsOf] using ih
    | var j => simpa [outsOf] using ih
theorem outsOf_len : ∀ {as ρ : List Slot}, (outsOf as ρ).length = as.length
  | [], _ => rfl
  | a :: as, s :: ρ => by
    have ih := outsOf_len (as := as) (ρ := ρ)
    cases a with
    | own b o => cases b <;> simpa [outsOf] using ih
    | nil => simpa [outsOf] using ih
    | fro d => simpa [outsOf] using ih
    | var j => simpa [outsOf] using ih
  | a :: as, [] => by
    have ih := outsOf_len (as := as) (ρ := [])
    cases a with
    | own b o => cases b <;> simpa [outsOf] using ih
    | nil => simpa [outsOf] using ih
    | fro d => simpa [outsOf] using ih
    | var j => simpa [outsOf] using ih
section
variable {K : PySem.W.Frag} {B : Addr → Prop} {args ρ' : List Slot} {vs : List V} {σ' : L2.St} {H H' : Hp} {L : Nat → Addr → Prop}
theorem get_app {α : Type} {l m : List α} {i : Nat} {x : α} (h : l[i]? = some x) : (l ++ m)[i]? = some x := by
  rw [List.getElem?_append_left (List.getElem?_eq_some_iff.mp h).1]; exact h
theorem app_get {α : Type} {l m : List α} {i : Nat} {x : α} (h : (l ++ m)[i]? = some x) : l[i]? = some x ∨ (l.length ≤ i ∧ m[i - l.length]? = some x) := by
  by_cases hi : i < l.length
  · rw [List.getElem?_append_left hi] at h; exact .inl h
  · rw [List.getElem?_append_right (by omega)] at h; exact .inr ⟨by omega, h⟩
theorem Rep.start {n : Nat} (R : Rep K B args (vs.map some) H) : Rep K B (args ++ List.replicate n .nil) (vs.map some ++ List.replicate n none) H ∧ ∀ a, Own (args ++ List.replicate n .nil) (vs.map some ++ List.replicate n none) a ↔ Own args (vs.map some) a := by
  have hl : args.length = (vs.map some).length := R.len
  have old : ∀ {i : Nat} {b : Bool} {o : O}, (args ++ List.replicate n Slot.nil)[i]? = some (.own b o) → args[i]? = some (.own b o) := fun {i b o} e => by
    rcases app_get e with e | ⟨_, e⟩
    · exact e
    · rw [List.getElem?_replicate] at e; split at e <;> cases e
  have σeq : ∀ i, i < args.length → (vs.map some ++ List.replicate n (none : Option V))[i]? = (vs.map some)[i]? := fun i hi => List.getElem?_append_left (by omega)
  have own : ∀ a, Own (args ++ List.replicate n .nil) (vs.map some ++ List.replicate n none) a ↔ Own args (vs.map some) a := fun a => by
    constructor
    · rintro ⟨i, b, o, e1, e2⟩
      have e := old e1
      rw [σeq i (List.getElem?_eq_some_iff.mp e).1] at e2
      exact ⟨i, b, o, e, e2⟩
    · rintro ⟨i, b, o, e1, e2⟩
      exact ⟨i, b, o, get_app e1, get_app e2⟩
  have av : ∀ a, Av B (args ++ List.replicate n .nil) (vs.map some ++ List.replicate n none) a → Av B args (vs.map some) a := fun a z => z.elim (fun z => .inl ((own a).1 z)) .inr
  refine ⟨⟨by simp only [List.length_append, List.length_replicate]; omega, fun i s e => ?_, fun i j b o b' o' a e1 e2 e3 e4 => ?_, R.btr, fun a z => R.dis a ((own a).1 z), R.tabs⟩, own⟩
  · rcases app_get e with e | ⟨_, e⟩
    · rw [σeq i (List.getElem?_eq_some_iff.mp e).1]
      have w := R.slot i s e
      cases s with
      | nil => trivial
      | fro d => obtain ⟨v, e1, r⟩ := w; exact ⟨v, e1, r.av av⟩
      | own b o => obtain ⟨a, e1, r⟩ := w; exact ⟨a, e1, r.av av⟩
      | var k => exact w
    · rw [List.getElem?_replicate] at e
      split at e
      · cases e; trivial
      · cases e
  · have f1 := old e1
    have f2 := old e2
    rw [σeq i (List.getElem?_eq_some_iff.mp f1).1] at e3
    rw [σeq j (List.getElem?_eq_some_iff.mp f2).1] at e4
    exact R.inj i j b o b' o' a f1 f2 e3 e4
theorem ends_rep {B' : Addr → Prop} (R : Rep K B args (vs.map some) H) (no : noOwn args) (R' : Rep K B' ρ' σ' H') (F : Fr H L ρ' σ' H') (hL : ∀ i a, L i a ↔ (∃ o : O, args[i]? = some (.own true o)) ∧ (vs.map some)[i]? = some (some (.ref a)))
    (hb : ∀ a, B' a → B a ∨ H a = none) :
    Rep K B' (outsOf args ρ') (vs.map some) H' ∧ Sub (outsOf args ρ') args ∧ Kp (Own args (vs.map some)) H H' ∧ ∀ a, Own (outsOf args ρ') (vs.map some) a → Own ρ' σ' a := by
  have lent : ∀ {i : Nat} {o : O}, args[i]? = some (.own true o) → ∃ o' a, (vs.map some)[i]? = some (some (V.ref a)) ∧ ρ'[i]? = some (.own true o') ∧ σ'[i]? = some (some (.ref a)) := fun {i o} e => by
    obtain ⟨a, ea, _⟩ := R.slot i _ e
    obtain ⟨⟨o', e'⟩, e2⟩ := (F.lent i a).1 ((hL i a).2 ⟨⟨o, e⟩, ea⟩)
    exact ⟨o', a, ea, e', e2⟩
  have got : ∀ {i : Nat} {s : Slot}, (outsOf args ρ')[i]? = some s → ∃ a, args[i]? = some a ∧ s = (match a with
      | .own true o => (ρ'[i]?).getD (.own true o)
      | a => a) := fun {i s} e => by
    have hi := (List.getElem?_eq_some_iff.mp e).1
    rw [outsOf_len] at hi
    have ea := List.getElem?_eq_getElem hi
    have := outsOf_get (ρ := ρ') ea
    rw [e] at this
    exact ⟨_, ea, Option.some.inj this⟩
  have gown : ∀ {i : Nat} {b : Bool} {o : O}, (outsOf args ρ')[i]? = some (.own b o) → ∃ o0 a, args[i]? = some (.own true o0) ∧ ρ'[i]? = some (.own b o) ∧ b = true ∧ (vs.map some)[i]? = some (some (V.ref a)) ∧ σ'[i]? = some (some (.ref a)) := fun {i b o} e => by
    obtain ⟨x, ex, es⟩ := got e
    cases x with
    | nil => cases es
    | fro d => cases es
    | var j => cases es
    | own c p =>
      cases c with
      | false => exact absurd ex (no i p)
      | true =>
        obtain ⟨o', a, h1, h2, h3⟩ := lent ex
        rw [h2] at es
        have es : Slot.own b o = .own true o' := es
        cases es
        exact ⟨p, a, ex, h2, rfl, h1, h3⟩
  have own : ∀ a, Own (outsOf args ρ') (vs.map some) a → Own ρ' σ' a := fun a ⟨i, b, o, e1, e2⟩ => by
    obtain ⟨o0, a', _, h2, _, h4, h5⟩ := gown e1
    rw [h4] at e2; cases e2
    exact ⟨i, b, o, h2, h5⟩
  have ownA : ∀ a, Own (outsOf args ρ') (vs.map some) a → Own args (vs.map some) a := fun a ⟨i, b, o, e1, e2⟩ => by
    obtain ⟨o0, a', h1, _⟩ := gown e1
    exact ⟨i, true, o0, h1, e2⟩
  have kp : Kp (Own args (vs.map some)) H H' := ⟨⟨fun a o e n t => F.keep a o e (fun i z => n (by
    obtain ⟨⟨o', h1⟩, h2⟩ := (hL i a).1 z
    exact ⟨i, true, o', h1, h2⟩)) t, F.imm⟩, F.trk, fun _ => R'.tabs⟩
  have av' : ∀ a, Av B' (outsOf args ρ') (vs.map some) a → Av B' ρ' σ' a := fun a z => z.elim (fun z => .inl (own a z)) .inr
  refine ⟨⟨by rw [outsOf_len]; exact R.len, fun i s e => ?_, fun i j b o b' o' a e1 e2 e3 e4 => ?_, R'.btr, fun a z => R'.dis a (own a z), R'.tabs⟩, ⟨fun i b o e => ?_, fun i o e => ?_⟩, kp, own⟩
  · obtain ⟨x, ex, es⟩ := got e
    cases x with
    | nil => cases es; trivial
    | fro d =>
      cases es
      obtain ⟨v, e1, r⟩ := R.slot i _ ex
      exact ⟨v, e1, r.mono kp (fun a z => .inl z) fun a z => z.elim (fun z => .inl (.inl (ownA a z))) fun z => (hb a z).elim (fun z => .inl (.inr z)) .inr⟩
    | var j => exact (R.slot i _ ex).elim
    | own c p =>
      cases c with
      | false => exact absurd ex (no i p)
      | true =>
        obtain ⟨o', a, h1, h2, h3⟩ := lent ex
        rw [h2] at es
        have es : s = .own true o' := es
        subst es
        obtain ⟨a', e1, r⟩ := R'.slot i _ h2
        rw [h3] at e1; cases e1
        exact ⟨a, h1, r.av av'⟩
  · obtain ⟨_, a1, _, g2, _, g4, g5⟩ := gown e1
    obtain ⟨_, a2, _, k2, _, k4, k5⟩ := gown e2
    rw [g4] at e3; cases e3
    rw [k4] at e4; cases e4
    exact R'.inj i j b o b' o' a g2 k2 g5 k5
  · obtain ⟨o0, a, h1, h2, rfl, _⟩ := gown e
    exact ⟨o0, h1⟩
  · obtain ⟨o', a, h1, h2, h3⟩ := lent e
    have hi := (List.getElem?_eq_some_iff.mp e).1
    have := outsOf_get (ρ := ρ') e
    rw [h2] at this
    exact ⟨o', this⟩
end
end Dl
namespace Dl
open PySem PySem.Spec PyProof.Rows L2
variable [TabN]
section
variable {P : Program} {w : World} {K : PySem.W.Frag} {mg : Str → Option Value} {base : Heap} {CX : CXT}
abbrev bodyCx (CX : CXT) (P : Program) (w : World) (K : PySem.W.Frag) (mg : Str → Option Value) (base : Heap) (N : List Str) (qual : Str) (st : Stmt) (f : Addr) (cdv : Value) (A : Around) (outer : List Env) (s : Shared) (H : Hp) (E : XK) : Cx :=
  cxOf CX P w K mg base N qual (defScope st) f cdv A outer s H E
theorem fnG_of {k : Nat} {f : Addr} {name qual : Str} {st : Stmt} {kV doc pm cdv ct oc : Value} {an od : Option Addr} {osl : Array (Option Value)} {N ps : List Str} {sp : Sp}
    (lk : K.lookup f = some ⟨oc, od, .func (PySem.W.fnOf name qual (defArgs st) (defBody st) (defScope st) .none kV doc pm an cdv ct), osl⟩) (hcd : PySem.W.codeIn K cdv qual = true) (S : FnScope N ps (defScope st))
    (len : ∀ vs H Q E, sp vs H Q E → vs.length = ps.length)
    (hbody : ∀ (A : Around) (outer : List Env) (s : Shared) (H : Hp) (vs : List V) (Q : VK) (E : XK), Room k (A.deeper (envOfC qual (defScope st) s.heap.objs.size f cdv)) → A.guards = some [] → sp vs H Q E →
      ∃ t, PSs (bodyCx CX P w K mg base N qual st f cdv A outer s H E) (defBody st) t ∧ t { nx := fun _ H' => Q .non H', rt := Q } (L2.start N vs) H) :
    FnG P w K mg base CX (k + 1) f (PySem.W.fnOf name qual (defArgs st) (defBody st) (defScope st) .none kV doc pm an cdv ct) ps sp := by
  refine ⟨len, fun A outer s H args us vs Q E hr hgu e0 hb r hsp => ?_⟩
  have inb : ∀ b o, base.get? b = some o → s.heap.get? b = some o := fun b o e => (e0.bs b o e).1
  have KX := e0.mod.kin.keeps inb
  have lim := e0.mod.nolimit.keeps inb
  have hkind : ∀ y ∈ ps.zip us, (defScope st).names.lookup y.1 = some .local ∨ ((defScope st).names.lookup y.1 = some .cell ∧ ((cellsFrom (s.heap.objs.size + 1) (defScope st).names []).lookup y.1).isSome = true) := fun y hy => by
    obtain ⟨n, v⟩ := y
    have q := S.par n (List.of_mem_zip hy).1
    exact q.elim .inl fun q => .inr ⟨q, PySem.W.cellsFrom_some _ _ _ (.inl q)⟩
  refine codeAny_call_function hr.depth (KX _ _ lk) rfl S.co S.gen rfl (PySem.W.codeRec_of KX hcd) (hb _ _ _ _ ?_)
  refine wpAny_newFunctionEnv_cells S.kind hkind fun env he s1 x => ?_
  subst he
  refine ⟨lim.keeps x.toInCall.keep, codeAny_func ?_⟩
  obtain ⟨t, ht, hq⟩ := hbody A outer s H vs Q E (hr.deeper _) hgu hsp
  have I := inv_start (CX := CX) (P := P) (w := w) (E := E) S hr.hd e0 (len _ _ _ _ hsp) r x
  have fin : ∀ {σ' : L2.St} {H' : Hp} {v : V} {u : Value} {s' : Shared}, Inv (bodyCx CX P w K mg base N qual st f cdv A outer s H E) [] σ' H' s' → RelV v u → Q v H' → CE outer P w H s Q u s' :=
    fun J rv q => ⟨_, _, J.os, J.bare, J.base, J.hok, rv, q⟩
  refine wpAny_mono (ht.run [] s1 (L2.start N vs) H _ I hq) (fun fl s' hs => ?_) fun e s' hs => hs
  match fl, hs with
  | .ret u, ⟨v, σ', H', J, rv, q⟩ => exact fin J rv q
  | .next, ⟨σ', H', J, q⟩ => exact fin (v := V.non) (u := Value.none) J rfl q
  | .brk, ⟨_, _, _, q⟩ => exact q.elim
  | .cont, ⟨_, _, _, q⟩ => exact q.elim
theorem def_ok {x qual : Str} {st : Stmt} {f : Addr} {fd : FuncData} {N ps : List Str} {k : Nat} {C : WE} {wb : WS} (F : Fun K x qual st f fd) (S : FnScope N ps (defScope st))
    (hb : ∀ (cdv : Value) (A : Around) (outer : List Env) (s : Shared) (H : Hp) (E : XK), Room k (A.deeper (envOfC qual (defScope st) s.heap.objs.size f cdv)) → (A.deeper (envOfC qual (defScope st) s.heap.objs.size f cdv)).guards = some [] →
      MSs (bodyCx CX0 P w K mg base N qual st f cdv A outer s H E).nox (defBody st) wb)
    (hC : ∀ args Q, args.length = ps.length → C args Q → noOwn args ∧ wb (endsOf args Q) (args ++ List.replicate (N.length - ps.length) .nil)) :
    FnG P w K mg base CX0 (k + 1) f fd ps (spOf K ps.length C) := by
  obtain ⟨oc, od, kV, doc, pm, an, cdv, ct, osl, rfl, lk, hcd⟩ := F.ex
  refine fnG_of lk hcd S (fun vs H Q E h => h.1) fun A outer s H vs Q E hr hgu hsp => ?_
  have hB := hb cdv A outer s H E hr hgu
  refine ⟨_, PSs.nox hB, ?_⟩
  obtain ⟨hl, B, args, Q', R, hc, hq⟩ := hsp
  have hla : args.length = ps.length := by rw [R.len, List.length_map]; exact hl
  obtain ⟨no, hw⟩ := hC args Q' hla hc
  have hst : L2.start N vs = vs.map some ++ List.replicate (N.length - ps.length) none := by unfold L2.start; rw [hl]
  obtain ⟨R0, ow⟩ := R.start (n := N.length - ps.length)
  rw [hst]
  have lentEq : ∀ (i : Nat) (a : Addr), ((∃ o : O, args[i]? = some (.own true o)) ∧ (vs.map some)[i]? = some (some (V.ref a))) ↔ ((∃ o : O, (args ++ List.replicate (N.length - ps.length) Slot.nil)[i]? = some (.own true o)) ∧ (vs.map some ++ List.replicate (N.length - ps.length) none)[i]? = some (some (V.ref a))) := fun i a => by
    constructor
    · rintro ⟨⟨o, e1⟩, e2⟩; exact ⟨⟨o, get_app e1⟩, get_app e2⟩
    · rintro ⟨⟨o, e1⟩, e2⟩
      rcases app_get e1 with e1 | ⟨_, e1⟩
      · have hi := (List.getElem?_eq_some_iff.mp e1).1
        rw [List.getElem?_append_left (by rw [← R.len]; exact hi)] at e2
        exact ⟨⟨o, e1⟩, e2⟩
      · rw [List.getElem?_replicate] at e1; split at e1 <;> cases e1
  refine ⟨B, H, fun i a => (∃ o : O, args[i]? = some (.own true o)) ∧ (vs.map some)[i]? = some (some (.ref a)), _, endsOf args Q', R0, ⟨fun a o e _ _ => e, fun a o e _ => e, fun a e => e, fun i o a e1 e2 => ?_, lentEq⟩, hw, ?_⟩
  · rcases app_get e1 with e1 | ⟨_, e1⟩
    · exact absurd e1 (no i o)
    · rw [List.getElem?_replicate] at e1; split at e1 <;> cases e1
  · have done : ∀ {B' : Addr → Prop} {ρ' : List Slot} {σ' : L2.St} {H' : Hp} {s' : Dl.Slot} {v : V}, Rep K B' ρ' σ' H' → Fr H (fun i a => (∃ o : O, args[i]? = some (.own true o)) ∧ (vs.map some)[i]? = some (some (.ref a))) ρ' σ' H' →
        (∀ a, B a → B' a) → (∀ a, B' a → B a ∨ H a = none) → (match s' with
          | .fro d => RepV K (Av B' ρ' σ') H' v d
          | .own _ o => ∃ a, v = .ref a ∧ H a = none ∧ B' a ∧ OOk K (Av B' ρ' σ') H' a o
          | _ => False) → Q' s' (outsOf args ρ') → Q v H' := fun {B' ρ' σ' H' s' v} R' F' b1 b2 res q => by
      obtain ⟨Ro, so, ko, oo⟩ := ends_rep R no R' F' (fun i a => Iff.rfl) b2
      have av : ∀ x, Av B' (outsOf args ρ') (vs.map some) x → Av B' ρ' σ' x := fun x z => z.elim (fun z => .inl (oo x z)) .inr
      match s', res, q with
      | .fro d, res, q => exact hq _ v _ H' (postF (Ro.fewer b1) (res.av fun x z => av x (z.elim .inl fun z => .inr (b1 x z)))) so ko q
      | .own b o, ⟨a, hv, n, hB', ok⟩, q =>
        subst hv
        have nb : ¬ B a := fun z => R.btr a z n
        have inc : ∀ x, B x ∨ x = a → B' x := fun x z => z.elim (b1 x) fun z => by rw [z]; exact hB'
        exact hq _ _ _ H' (postO n nb (Ro.fewer inc) (ok.av fun x z => av x (z.elim .inl fun z => .inr (inc x z)))) so ko q
    refine ⟨fun ρ' σ' H' R' F' q => done (s' := .fro .non) R' F' (fun _ z => z) (fun _ z => .inl z) .non q, fun _ _ _ _ _ q => q.elim, fun _ _ _ _ _ q => q.elim, fun s' v ρ' σ' H1 H' post F' ht q => ?_⟩
    have back : ∀ a, H1 a = none → H a = none := fun a z => by
      cases e : H a with
      | none => rfl
      | some o => exact absurd z (ht a (by rw [e]; exact nofun))
    match s', post, q with
    | .fro d, post, q => exact done (s' := .fro d) post.1 F' (fun _ z => z) (fun _ z => .inl z) post.2 q
    | .own b o, ⟨a, hv, n, nb, R', ok⟩, q => exact done (s' := .own false o) R' F' (fun _ z => .inl z) (fun x z => z.elim .inl fun z => .inr (by rw [z]; exact back a n)) ⟨a, hv, back a n, .inr rfl, ok⟩ q
    | .var i, post, q =>
      obtain ⟨R', ev⟩ := post
      have q : (match ρ'[i]? with
        | some (.own false o) => Q' (.own false o) (outsOf args (ρ'.set i .nil))
        | some (.fro d) => Q' (.fro d) (outsOf args ρ')
        | _ => False) := q
      cases e : ρ'[i]? with
      | none => rw [e] at q; exact q.elim
      | some t =>
        rw [e] at q
        match t, e, q with
        | .fro d, e, q =>
          obtain ⟨v', e1, r⟩ := R'.slot i _ e
          rw [ev] at e1; cases e1
          exact done (s' := .fro d) R' F' (fun _ z => z) (fun _ z => .inl z) r q
        | .own false o, e, q =>
          obtain ⟨a, e1, ok⟩ := R'.slot i _ e
          rw [ev] at e1; cases e1
          have oa : Own ρ' σ' a := ⟨i, false, o, e, ev⟩
          have hi := (List.getElem?_eq_some_iff.mp e).1
          -- the slot is emptied, its thing shut out
          have ow : ∀ x, Own (ρ'.set i .nil) σ' x → Own ρ' σ' x ∧ x ≠ a := fun x ⟨j, b, o', f1, f2⟩ => by
            rcases getElem?_set_of f1 with ⟨_, z⟩ | ⟨m, z⟩
            · cases z
            · exact ⟨⟨j, b, o', z, f2⟩, fun h => m (R'.inj i j false o b o' a e z ev (by rw [f2, h]))⟩
          have av : ∀ x, Av (fun x => B x ∨ x = a) (ρ'.set i .nil) σ' x → Av B ρ' σ' x := fun x z => by
            rcases z with z | z | z
            · exact .inl (ow x z).1
            · exact .inr z
            · exact .inl (by rw [z]; exact oa)
          have R2 : Rep K (fun x => B x ∨ x = a) (ρ'.set i .nil) σ' H' := by
            refine ⟨by rw [List.length_set]; exact R'.len, fun j s f => ?_, fun j k b o1 b' o2 x f1 f2 f3 f4 => ?_, fun x z => z.elim (R'.btr x) fun z => by rw [z]; exact ok.trk, fun x z h => h.elim (R'.dis x (ow x z).1) (ow x z).2, R'.tabs⟩
            · rcases getElem?_set_of f with ⟨_, z⟩ | ⟨_, z⟩
              · subst z; trivial
              · have y := R'.slot j s z
                cases s with
                | nil => trivial
                | fro d => obtain ⟨v, g1, r⟩ := y; exact ⟨v, g1, r.av av⟩
                | own b o => obtain ⟨x, g1, r⟩ := y; exact ⟨x, g1, r.av av⟩
                | var k => exact y
            · rcases getElem?_set_of f1 with ⟨_, z⟩ | ⟨_, z1⟩
              · cases z
              · rcases getElem?_set_of f2 with ⟨_, z⟩ | ⟨_, z2⟩
                · cases z
                · exact R'.inj j k b o1 b' o2 x z1 z2 f3 f4
          have F2 : Fr H (fun i a => (∃ o : O, args[i]? = some (.own true o)) ∧ (vs.map some)[i]? = some (some (.ref a))) (ρ'.set i .nil) σ' H' := by
            refine ⟨fun a o e n t => F'.keep a o e n t, F'.imm, F'.trk, fun j o' x f1 f2 => ?_, fun j x => ?_⟩
            · rcases getElem?_set_of f1 with ⟨_, z⟩ | ⟨_, z⟩
              · cases z
              · exact F'.ownf j o' x z f2
            · rw [F'.lent j x]
              by_cases m : i = j
              · subst m
                constructor
                · rintro ⟨⟨o', f⟩, _⟩; rw [e] at f; cases f
                · rintro ⟨⟨o', f⟩, _⟩
                  rcases getElem?_set_of f with ⟨_, z⟩ | ⟨m, _⟩
                  · cases z
                  · exact absurd rfl m
              · rw [List.getElem?_set_ne m]
          have na := F'.ownf i o a e ev
          exact done (s' := .own false o) R2 F2 (fun _ z => .inl z) (fun x z => z.elim .inl fun z => .inr (by rw [z]; exact na)) ⟨a, rfl, na, .inr rfl, ok.av av⟩ q
end
end Dl
namespace Dl
open PySem PySem.Spec PyProof.Rows L2
section
variable {P : Program} {w : World} {K : PySem.W.Frag} {mg mb : Str → Option Value} {CX : CXT} {k : Nat} {fa a : Addr} {fd : FuncData} {x : Str} {C : WE} {t0 : Shared} {us : List Value} {ns : List Int}
end
end Dl
namespace Dl
namespace Hd
open PySem PySem.Spec PyProof.Rows L2 He
abbrev Fg := PySem.W.Frag
structure FnE where
  adr : Fg → Addr
  name : Str
  qual : Str
  st : Stmt
def fnO (K : Fg) (f : Addr) : FnV := match K.lookup f with
  | some ⟨_, _, .func fd, _⟩ => some (fd.name, fd.qualname, fd.params, fd.body, fd.scope, fd.globals, fd.closure, fd.defaults, fd.builtins)
  | _ => none
def FnE.val (d : FnE) : FnV := some (d.name, d.qual, defArgs d.st, .stmts (defBody d.st), defScope d.st, mainGlobals, [], .none, builtinsNs)
def FnE.ok (K : Fg) (d : FnE) : Bool := PySem.W.keepIn K (.ref (d.adr K)) && (match K.lookup (d.adr K) with
  | some ⟨_, _, .func fd, _⟩ => PySem.W.codeIn K fd.code d.qual
  | _ => false)
theorem fnE_mk {K : Fg} {d : FnE} (e : fnO K (d.adr K) = d.val) (c : d.ok K = true) :
    ∃ oc od osl kV doc pm an cdv ct, K.lookup (d.adr K) = some ⟨oc, od, .func (PySem.W.fnOf d.name d.qual (defArgs d.st) (defBody d.st) (defScope d.st) .none kV doc pm an cdv ct), osl⟩ ∧ PySem.W.codeIn K cdv d.qual = true ∧ PySem.W.keepIn K (.ref (d.adr K)) = true := by
  obtain ⟨k1, c2⟩ := ba c
  unfold fnO at e
  cases q : K.lookup (d.adr K) with
  | none =>
    rw [q] at c2
    cases c2
  | some o =>
    obtain ⟨oc, od, dt, osl⟩ := o
    rw [q] at c2 e
    cases dt with
    | func fd =>
      obtain ⟨n1, n2, n3, n4, n5, n6, n7, n8, n9, n10, n11, n12, n13, n14, n15⟩ := fd
      have e2 : (some (n1, n2, n3, n4, n5, n6, n7, n8, n15) : FnV) = some (d.name, d.qual, defArgs d.st, .stmts (defBody d.st), defScope d.st, mainGlobals, [], .none, builtinsNs) := e
      simp only [Option.some.injEq, Prod.mk.injEq] at e2
      obtain ⟨h1, h2, h3, h4, h5, h6, h7, h8, h9⟩ := e2
      subst h1 h2 h3 h4 h5 h6 h7 h8 h9
      exact ⟨oc, od, osl, n9, n10, n11, n12, n13, n14, rfl, c2, k1⟩
    | _ => cases c2
def seen (fs : List (Fg → Bool)) (fn : List FnE) (K : Fg) : Bool × List FnV := ((fs.all fun f => f K) && fn.all fun d => d.ok K, fn.map fun d => fnO K (d.adr K))
def due (fn : List FnE) : Bool × List FnV := (true, fn.map FnE.val)
def ob (as : List Addr) (fs : List (Fg → Bool)) (fn : List FnE) (s : PySem.W.SharedT) : Bool × List FnV := seen fs fn (frG (HandSHeadRun.getT s) as)
section
variable {fs : List (Fg → Bool)} {fn : List FnE} {K : Fg}
theorem fact (c : seen fs fn K = due fn) (i : Nat) {f : Fg → Bool} (h : fs[i]? = some f := by rfl) : f K = true := by
  have c1 := (ba (show ((fs.all fun f => f K) && fn.all fun d => d.ok K) = true from congrArg (fun z : Bool × List FnV => z.1) c)).1
  exact List.all_eq_true.mp c1 f (List.mem_of_getElem? h)
theorem fdef (c : seen fs fn K = due fn) (i : Nat) {d : FnE} (h : fn[i]? = some d := by rfl) :
    ∃ oc od osl kV doc pm an cdv ct, K.lookup (d.adr K) = some ⟨oc, od, .func (PySem.W.fnOf d.name d.qual (defArgs d.st) (defBody d.st) (defScope d.st) .none kV doc pm an cdv ct), osl⟩ ∧ PySem.W.codeIn K cdv d.qual = true ∧ PySem.W.keepIn K (.ref (d.adr K)) = true := by
  have c2 := (ba (show ((fs.all fun f => f K) && fn.all fun d => d.ok K) = true from congrArg (fun z : Bool × List FnV => z.1) c)).2
  have e : fn.map (fun d => fnO K (d.adr K)) = fn.map FnE.val := congrArg (fun z : Bool × List FnV => z.2) c
  have e2 : (fn.map fun d => fnO K (d.adr K))[i]? = (fn.map FnE.val)[i]? := by rw [e]
  rw [List.getElem?_map, List.getElem?_map, h] at e2
  exact fnE_mk (Option.some.inj e2) (List.all_eq_true.mp c2 d (List.mem_of_getElem? h))
end
def glo (x : Str) (K : Fg) : Bool := eqO (PySem.W.nsIn K mainGlobals x) (some (some (.ref (ga K x))))
def fre (x : Str) (K : Fg) : Bool := eqO (PySem.W.nsIn K mainGlobals x) (some none)
def fnd (C : Fg → Addr) (x : Str) (v : Option Value) (K : Fg) : Bool := eqO (PySem.W.findIn K (.ref (C K)) x) (some v)
def mth (C : Str) (m : Str) (K : Fg) : Bool := eqO (PySem.W.findIn K (.ref (ga K C)) m) (some (some (.ref (ma K (ga K C) m)))) && PySem.W.isFn K (.ref (ma K (ga K C) m))
def recA (K : Fg) (p : Addr) : Addr := match PySem.W.recIn K p "property" with
  | some (.ref f :: _) => f
  | _ => 0
def recR (K : Fg) (p : Addr) : List Value := match PySem.W.recIn K p "property" with
  | some (.ref _ :: r) => r
  | _ => []
def recB (K : Fg) (p : Addr) : Bool := match PySem.W.recIn K p "property" with
  | some (.ref _ :: _) => true
  | _ => false
theorem rec_ok {K : Fg} {p : Addr} (h : recB K p = true) : PySem.W.recIn K p "property" = some (.ref (recA K p) :: recR K p) := by
  unfold recB at h
  unfold recA recR
  cases q : PySem.W.recIn K p "property" with
  | none => rw [q] at h; cases h
  | some l =>
    rw [q] at h
    cases l with
    | nil => cases h
    | cons v r =>
      cases v with
      | ref f => rfl
      | _ => cases h
def prp (C : Str) (m : Str) (K : Fg) : Bool := eqO (PySem.W.findIn K (.ref (ga K C)) m) (some (some (.ref (ma K (ga K C) m)))) && (eqO (PySem.W.specialIn K (.ref (ma K (ga K C) m)) "__get__") (some (some (.builtin "property.__get__"))) &&
  (decide (PySem.W.takesIn K (.ref (ma K (ga K C) m)) = some true) && recB K (ma K (ga K C) m)))
def dkB (f : Fg → Addr) (x : Str) (v : Value) (K : Fg) : Bool := match K.lookup (f K) with
  | some ⟨_, _, .func fd, _⟩ => (match fd.kwdefaults with
    | .ref D => eqO (PySem.W.nsIn K D x) (some (some v))
    | _ => false)
  | _ => false
theorem dk_ok {K : Fg} {f : Fg → Addr} {x : Str} {v : Value} {oc : Value} {od : Option Addr} {osl : Array (Option Value)} {n q : Str} {as : Arguments} {b : List Stmt} {sc : Scope} {kV doc pm cdv ct : Value} {an : Option Addr}
    (l : K.lookup (f K) = some ⟨oc, od, .func (PySem.W.fnOf n q as b sc .none kV doc pm an cdv ct), osl⟩) (h : dkB f x v K = true) : ∃ D, kV = .ref D ∧ PySem.W.nsIn K D x = some (some v) := by
  unfold dkB at h
  rw [l] at h
  clear l
  cases kV with
  | ref D => exact ⟨D, rfl, eqO_ok h⟩
  | _ => cases h
inductive Pt where
  | non | bl (b : Bool) | int (i : Int) | str (x : Str) | tup (ps : List Pt)
mutual
def ptB (K : Fg) : Pt → Value → Bool
  | .non, .none => true
  | .bl b, .bool c => b == c
  | .int i, .int j _ => decide (j = i)
  | .str x, .str y _ => decide (y = x)
  | .tup ps, .ref a => (match K.lookup a with
    | some ⟨.type c, _, .seq its _, _⟩ => decide (c = "tuple") && ptsB K ps its.toList
    | _ => false)
  | _, _ => false
def ptsB (K : Fg) : List Pt → List Value → Bool
  | [], [] => true
  | p :: ps, v :: vs => ptB K p v && ptsB K ps vs
  | _, _ => false
end
theorem pt_int {K : Fg} {v : Value} {i : Int} (h : ptB K (.int i) v = true) : ∃ t, v = .int i t := by
  cases v with
  | int j t => simp [ptB] at h; exact ⟨t, by rw [h]⟩
  | _ => simp [ptB] at h
theorem pt_str {K : Fg} {v : Value} {x : Str} (h : ptB K (.str x) v = true) : ∃ t, v = .str x t := by
  cases v with
  | str j t => simp [ptB] at h; exact ⟨t, by rw [h]⟩
  | _ => simp [ptB] at h
theorem pt_tup {K : Fg} {v : Value} {ps : List Pt} (h : ptB K (.tup ps) v = true) : ∃ a d vs n sl, v = .ref a ∧ K.lookup a = some ⟨.type "tuple", d, .seq (List.toArray vs) n, sl⟩ ∧ ptsB K ps vs = true := by
  cases v with
  | ref a =>
    simp only [ptB] at h
    cases q : K.lookup a with
    | none => rw [q] at h; cases h
    | some o =>
      obtain ⟨oc, od, dt, osl⟩ := o
      rw [q] at h
      cases oc with
      | type c =>
        cases dt with
        | seq its n =>
          have h2 : (decide (c = "tuple") && ptsB K ps its.toList) = true := h
          obtain ⟨h3, h4⟩ := ba h2
          have e := of_decide_eq_true h3
          subst e
          exact ⟨a, od, its.toList, n, osl, rfl, by simpa using q, h4⟩
        | _ => cases h
      | _ => cases dt <;> cases h
  | _ => simp [ptB] at h
theorem pts_nil {K : Fg} {vs : List Value} (h : ptsB K [] vs = true) : vs = [] := by
  cases vs with
  | nil => rfl
  | cons v r => simp [ptsB] at h
theorem pts_cons {K : Fg} {p : Pt} {ps : List Pt} {vs : List Value} (h : ptsB K (p :: ps) vs = true) : ∃ v r, vs = v :: r ∧ ptB K p v = true ∧ ptsB K ps r = true := by
  cases vs with
  | nil => simp [ptsB] at h
  | cons v r => simp only [ptsB] at h; obtain ⟨h1, h2⟩ := ba h; exact ⟨v, r, rfl, h1, h2⟩
def cst (x : Str) (p : Pt) (K : Fg) : Bool := match PySem.W.nsIn K mainGlobals x with
  | some (some v) => ptB K p v
  | _ => false
theorem cst_ok {K : Fg} {x : Str} {p : Pt} (h : cst x p K = true) : ∃ v, PySem.W.nsIn K mainGlobals x = some (some v) ∧ ptB K p v = true := by
  unfold cst at h
  cases q : PySem.W.nsIn K mainGlobals x with
  | none => rw [q] at h; cases h
  | some o =>
    rw [q] at h
    cases o with
    | none => cases h
    | some v => exact ⟨v, rfl, h⟩
end Hd
open PySem PySem.Spec PyProof.Rows L2
end Dl
set_option maxHeartbeats 2000000
namespace PySem
namespace SupX
open PySem.W PySem.Calls PyProof.Rows PySem.HandSPX
abbrev veAll : List Value := [.type "ValueError", .type "Exception", .type "BaseException", .type "object"]
def iS (a : Str) : List (Str × NameKind) := [(("self" : Str), .local), (a, .local), (("__class__" : Str), .free), (("super" : Str), .globalImplicit)]
structure SupBody (a : Str) (args : Arguments) (body : List Stmt) (scope : Scope) : Prop where
  av : a ≠ "self" ∧ a ≠ "super" ∧ a ≠ "__class__" ∧ (a == ("__debug__" : Str)) = false
  nms : scope.names = iS a
  kd : scope.kind = .function ∧ scope.isCoroutine = false ∧ scope.isGenerator = false
  par : ∃ ar, (args.posonlyargs ++ args.args).head? = some ar ∧ ar.arg = "self"
  bind : ∀ (qual : Str) (cc cda x : Addr) (doc pm ct v : Value) (an : Option Addr), bindArgs (fnX "__init__" qual args body scope [("__class__", cc)] .none .none doc pm an (.ref cda) ct) ⟨[.ref x, v], []⟩ = pure [(("self" : Str), Value.ref x), (a, v)]
  txt : ∃ q1 q2 q3 q4 q5 q6 q7 q8 q9 q10 : Pos, body = [.Expr (.Call (.Attribute (.Call (.Name "super" q1) [] [] q2) "__init__" q3) [.Name a q4] [] q5) q6, .Assign [.Attribute (.Name "self" q7) a q8] (.Name a q9) q10] ∧
    (∀ env : Env, ∃ pl, eval (.Call (.Attribute (.Call (.Name "super" q1) [] [] q2) "__init__" q3) [.Name a q4] [] q5) env = (do
      let ov ← attributeBase (.Call (.Name "super" q1) [] [] q2) "__init__" env (eval (.Call (.Name "super" q1) [] [] q2) env)
      standAt q3.atName
      let (f, first) ← holding [ov] (getMethod ov "__init__" pl)
      callWith q5 f first (backTo q5 (starEach [.Name a q4] env)) [])) ∧
    (∀ env : Env, swapsWith (.Call (.Attribute (.Call (.Name "super" q1) [] [] q2) "__init__" q3) [.Name a q4] [] q5) none q6.line env = pure false) ∧
    (∀ env : Env, swapsWith (.Name a q9) (some (.Attribute (.Name "self" q7) a q8)) q10.line env = pure false) ∧
    (∀ env : Env, starEach [.Name a q4] env = [(false, eval (.Name a q4) env)])
structure SupTxt (P : Program) (K : Frag) (qual a : Str) (args : Arguments) (body : List Stmt) (scope : Scope) (C fI : Addr) : Prop where
  cls : ∃ nm q N bs bm sn sub ab col dd k0 k1 k2 k3 k5, K.lookup C = some (excClassObj nm q C N bs bm true sn sub ab col dd k0 k1 k2 k3 k5 "ValueError.__new__") ∧ refsVE bm = true
  xi : excInitIn K C veAll "ValueError.__new__" = true
  sa : findIn K (.ref C) "__setattr__" = some (some (.builtin "object.__setattr__"))
  ga : findIn K (.ref C) "__getattribute__" = some (some (.builtin "BaseException.__getattribute__"))
  gg : findIn K (.ref C) "__getattr__" = some none
  noN : findIn K (.ref C) a = some none
  iC : findIn K (.ref C) "__init__" = some (some (.ref fI))
  tC : typeIn K (.ref fI) = some (.type "function")
  kC : keepIn K (.ref C) = true
  exC : subIn K (.ref C) (.type "BaseException") = some true
  tyC : typeIn K (.ref C) = some (.type "type")
  hdC : hasDictIn K C = true
  su : ks_superIn K C C "__init__" = some (some (.builtin "ValueError.__init__"))
  sB : subIn K (.ref C) (.type "ValueError") = some true
  ss : mroIn K C (.ref C) = some true
  st : nsIn K cStatics "thirdparty.any" = some none
  sp : nsIn K mainGlobals "super" = some none
  fn : ∃ (oc : Value) (od : Option Addr) (doc pm : Value) (an : Option Addr) (cda cc : Addr) (ct : Value) (osl : Array (Option Value)),
    K.lookup fI = some ⟨oc, od, .func (fnX "__init__" qual args body scope [("__class__", cc)] .none .none doc pm an (.ref cda) ct), osl⟩ ∧ codeIn K (.ref cda) qual = true ∧
    (∃ (ccl : Value) (cdd : Option Addr) (ccs : Array (Option Value)) (vs : Array Value) (file : Str) (tf : Tok), K.lookup cda = some ⟨ccl, cdd, .fields vs, ccs⟩ ∧ vs[2]? = some (.str file tf) ∧ ((P.main.file : Str) == file) = true) ∧
    (∃ (cl : Value) (cld : Option Addr) (csl : Array (Option Value)), K.lookup cc = some ⟨cl, cld, .cell (some (.ref C)), csl⟩)
  top : (P.main.scope.names.lookup ("super" : Str)).isSome = false
structure InitEnd (h h' : Heap) (a : Str) (x C dx t1 : Addr) (v : Value) : Prop where
  keep : ∀ b o, b ≠ x → h.get? b = some o → h'.get? b = some o
  obj : h'.get? x = some { cls := .ref C, dict := some dx, data := .fields #[.ref t1, .none, .none, .none, .bool false, .none] }
  dbig : h.objs.size ≤ dx
  dne : dx ≠ x
  ns : h'.Ns1 dx (fun y => if y = a then some v else none)
theorem one_size (v : Value) : [v].length ≤ sizeLine := by
  rw [sizeLine_eq]
  exact (by decide : 1 ≤ 16777216)
section
variable {prog : Program} {w : World} {A : Around} {E : Value → Shared → Prop} {R : Result → Shared → Prop} {s : Shared} {K : Frag} {mg mb : Str → Option Value} {qual a : Str} {args : Arguments} {body : List Stmt} {scope : Scope} {C fI : Addr}
theorem bw_call {hh : Heap} {g : Array GenState} {d : Drawn} {tk : Nat} {os : OsState} {x u t0 : Addr} {v : Value} {Q : Value → Shared → Prop} (X : K.In hh) (q : excInitIn K C veAll "ValueError.__new__" = true) (hu : hh.get? u = some (kxs_mw "ValueError.__init__" x)) (he : hh.get? x = some (excO C t0))
    (h : ∀ h', (∀ b o, b ≠ x → hh.get? b = some o → h'.get? b = some o) → h'.get? x = some (excO C hh.objs.size) → Q .none ⟨h', g, d, tk, os⟩) :
    wpAny (model prog w) A (call (.ref u) [v]) Q E ⟨hh, g, d, tk, os⟩ := by
  obtain ⟨nm, N', qn, bs, bm, hdct, sn, sub, ab, col, dd, k0, k1, k2, k3, k5, hC, hT⟩ := excInit_of X q
  refine wpAny_call (codeAny_of_tree ?_)
  show wpAny _ A.in1 (callAny (.ref u) ⟨[v], []⟩) _ _ _
  simp only [callAny]
  refine wpAny_bind (wpAny_load hu ?_)
  simp only [kxs_mw, show (Value.type "method-wrapper" == Value.type "method" || Value.type "method-wrapper" == Value.type "builtin_function_or_method" || Value.type "method-wrapper" == Value.type "method-wrapper") = true by decide, if_true]
  refine KFB.if_so (by decide) ?_
  refine wpAny_bind (check_bound_init PySem.F.excBase_ValueError.toExcCallFacts hC he rfl ?_)
  refine wpAny_bind (wpAny_pure (wpAny_pure ?_))
  refine ⟨plainId_quiet PySem.F.excBase_ValueError.init.plain _, codeAny_builtin PySem.F.excBase_ValueError.initEntry ?_⟩
  exact exc_init_tree (cls := .ref C) (t0 := t0) (dv := none) (c2 := .none) (c3 := .none) (b4 := .bool false) he (one_size v) fun h' k e' t' => h h' k e'
theorem sup_init (T : SupTxt prog K qual a args body scope C fI) (B : SupBody a args body scope) {x t0 : Addr} {v : Value} (X : K.In s.heap) (hg : s.heap.Ns mainGlobals mg) (hb : s.heap.Ns builtinsNs mb) (hbb : mb "super" = some (.type "super")) (hlim : s.heap.NoLimit) (hx : s.heap.get? x = some (excO C t0)) (hnx : K.lookup x = none) (hroom : A.depth < recursionLimit)
    (hq : ∀ h' tk dx t1, InitEnd s.heap h' a x C dx t1 v → R (.ok (.ret .none)) { s with heap := h', toks := tk }) :
    codeAny (model prog w) A (.call (.ref fI) ⟨[.ref x, v], []⟩) R s := by
  obtain ⟨oc, od, doc, pm, an, cda, cc, ct, osl, ho, hcd, ⟨ccl, cdd, ccs, vs, file, tf, hcode, hvs, hfile⟩, ⟨cl, cld, csl, hcell⟩⟩ := T.fn
  obtain ⟨nm, q, N, bs, bm, sn, sub, ab, col, dd, k0, k1, k2, k3, k5, hC, hbm⟩ := T.cls
  obtain ⟨av1, av2, av3, av4⟩ := B.av
  obtain ⟨q1, q2, q3, q4, q5, q6, q7, q8, q9, q10, rfl, he, hs1, hs2, hse⟩ := B.txt
  obtain ⟨kd1, kd2, kd3⟩ := B.kd
  obtain ⟨ar, hp1, hp2⟩ := B.par
  have hcl : clsIn K C = some { name := nm, bases := bs, mro := .ref C :: bm, ns := N, qualname := q, hasDict := true, slotNames := sn, subclasses := sub, abstract := ab, collection := col, hasDel := false } := by unfold clsIn; rw [hC] <;> rfl
  have b1 : (a == ("self" : Str)) = false := by simpa using av1
  have b2 : (("super" : Str) == a) = false := by simpa using Ne.symm av2
  have b3 : (("__class__" : Str) == a) = false := by simpa using Ne.symm av3
  have bself : ((("self" : Str) == a)) = false := by simpa using Ne.symm av1
  have bb : (a == a) = true := by simp
  have lself : scope.names.lookup ("self" : Str) = some .local := by
    rw [B.nms]; rfl
  have la : scope.names.lookup a = some .local := by
    rw [B.nms]
    show List.lookup a [(("self" : Str), NameKind.local), (a, .local), (("__class__" : Str), .free), (("super" : Str), .globalImplicit)] = _
    rw [List.lookup_cons, b1, List.lookup_cons, bb]
  have ls : scope.names.lookup ("super" : Str) = some .globalImplicit := by
    rw [B.nms]
    show List.lookup ("super" : Str) [(("self" : Str), NameKind.local), (a, .local), (("__class__" : Str), .free), (("super" : Str), .globalImplicit)] = _
    rw [List.lookup_cons, show (("super" : Str) == ("self" : Str)) = false from by decide, List.lookup_cons, b2, List.lookup_cons, show (("super" : Str) == ("__class__" : Str)) = false from by decide, List.lookup_cons, show (("super" : Str) == ("super" : Str)) = true from by decide]
  have lc : scope.names.lookup ("__class__" : Str) = some .free := by
    rw [B.nms]
    show List.lookup ("__class__" : Str) [(("self" : Str), NameKind.local), (a, .local), (("__class__" : Str), .free), (("super" : Str), .globalImplicit)] = _
    rw [List.lookup_cons, show (("__class__" : Str) == ("self" : Str)) = false from by decide, List.lookup_cons, b3, List.lookup_cons, show (("__class__" : Str) == ("__class__" : Str)) = true from by decide]
  refine ks_codeAny_call_defAt hroom (X _ _ ho) rfl hlim (codeRec_of X hcd) rfl (BindsTo.of_eq (B.bind _ _ _ _ _ _ _ _ _)) ?_ ?_ (fun h₁ hns k => ?_) kd2 kd3 kd1
  · intro p hp
    have hp' : p ∈ [(("self" : Str), NameKind.local), (a, .local), (("__class__" : Str), .free), (("super" : Str), .globalImplicit)] := by
      have e : p ∈ scope.names := hp
      rw [B.nms] at e
      exact e
    simp only [List.mem_cons, List.not_mem_nil, or_false] at hp'
    rcases hp' with rfl | rfl | rfl | rfl <;> exact nofun
  · intro p hp
    simp only [List.mem_cons, List.not_mem_nil, or_false] at hp
    rcases hp with rfl | rfl
    · exact lself
    · exact la
  have hL : h₁.Ns s.heap.objs.size fun y => [(("self" : Str), Value.ref x), (a, v)].reverse.lookup y := hns
  have msf : [(("self" : Str), Value.ref x), (a, v)].reverse.lookup ("self" : Str) = some (.ref x) := by
    show List.lookup ("self" : Str) [(a, v), (("self" : Str), Value.ref x)] = _
    rw [List.lookup_cons, bself, List.lookup_cons, show (("self" : Str) == ("self" : Str)) = true from by decide]
  have ma : [(("self" : Str), Value.ref x), (a, v)].reverse.lookup a = some v := by
    show List.lookup a [(a, v), (("self" : Str), Value.ref x)] = _
    rw [List.lookup_cons, bb]
  have X₁ : K.In h₁ := X.keeps k
  have hx₁ := k _ _ hx
  have xL : s.heap.objs.size ≠ x := Nat.ne_of_gt (Heap.lt_size hx)
  obtain ⟨pl, he⟩ := he (callEnv (fnX "__init__" qual args [.Expr (.Call (.Attribute (.Call (.Name "super" q1) [] [] q2) "__init__" q3) [.Name a q4] [] q5) q6, .Assign [.Attribute (.Name "self" q7) a q8] (.Name a q9) q10] scope [("__class__", cc)] .none .none doc pm an (.ref cda) ct) s.heap.objs.size fI)
  refine ks_wpAt_execs_cons (ks_wpAt_Expr_any (ks_wpAt_MethodCall (ks_wpAt_super_base ls lc (by decide) rfl (X₁ _ _ ho) rfl hp1 rfl (X₁ _ _ hcode) rfl hvs hfile T.top ?_) he) ?hi (hs1 _))
  case hi =>
    show (scope.kind == .module && _) = false
    rw [kd1]; rfl
  have hg₁ : h₁.Ns mainGlobals mg := hg.keeps k
  have hb₁ : h₁.Ns builtinsNs mb := hb.keeps k
  obtain ⟨oD, hD1, hD2⟩ : ∃ oD, h₁.get? C = some oD ∧ oD.data = .cls { name := nm, bases := bs, mro := .ref C :: bm, ns := N, qualname := q, hasDict := true, slotNames := sn, subclasses := sub, abstract := ab, collection := col, hasDel := false } := ⟨_, X₁ _ _ hC, rfl⟩
  refine ks_loadName_global kd1 ls (loadGlobal_builtin (mg := mg) (mb := mb) hg₁ (mg_none_of X hg T.sp) hb₁ hbb ⟨rfl, ?_⟩)
  refine wpAny_loadName_free kd1 lc rfl ⟨_, X₁ _ _ hcell, rfl⟩ ?_
  rw [hp2]
  refine wpAny_loadName_local kd1 lself hL msf ?_
  refine ks_wpAny_isType_cls hD1 hD2 ⟨rfl, ?_⟩
  refine ks_wpAny_call_super hD1 hD2 hx₁ rfl (fun c e => by cases e) (looks_mroIn X₁ T.ss) (fun h₂ e₂ k₂ => ?_)
  -- so at h₁'s size
  have X₂ : K.In h₂ := X₁.keeps k₂
  have hx₂ := k₂ _ _ hx₁
  have hxC : x ≠ C := fun z => by rw [z] at hnx; rw [hnx] at hC; cases hC
  refine kxs_getMethod kxs_ValueError e₂ (looks_opaque X₂ T.st) (l₀ := .ref C :: bm) (fun A Q E s k q => wpAny_bind ((looks_clsIn X₂ hcl) A _ E s k (wpAny_pure q))) rfl X₂ (by have z := T.su; unfold ks_superIn at z; rw [hcl] at z; exact z) ((show InstAt h₂ x (excO C t0) C none from ⟨hx₂, rfl, rfl, trivial⟩).type.andThen (looks_subIn X₂ T.sB)) hxC rfl ?_
  -- the wrapper at h₂'s size
  have X₃ : K.In (h₂.push (kxs_mw "ValueError.__init__" x)) := X₂.keeps fun b o e => Heap.get?_push_of_some _ e
  have hx₃ : (h₂.push (kxs_mw "ValueError.__init__" x)).get? x = some (excO C t0) := Heap.get?_push_of_some _ hx₂
  have hu₃ : (h₂.push (kxs_mw "ValueError.__init__" x)).get? h₂.objs.size = some (kxs_mw "ValueError.__init__" x) := Heap.get?_push_at rfl rfl
  have k₃ : ∀ b o, h₁.get? b = some o → (h₂.push (kxs_mw "ValueError.__init__" x)).get? b = some o := fun b o e => Heap.get?_push_of_some _ (k₂ _ _ e)
  have n₃ := hL.keeps k₃
  refine kxs_callWith (i := "ValueError.__init__") (x := x) (by rw [hse]; rfl) ?_
  rw [hse]
  refine evalArgs_plain (Calls.spliced_cons (wpAny_Name (wpAny_loadName_local kd1 la n₃ ma ?_) av4))
  refine Calls.spliced_nil ⟨hu₃, ?_⟩
  refine bw_call X₃ T.xi hu₃ hx₃ fun h₄ k₄ hx₄ => ?_
  have k1₄ : ∀ b o, b ≠ x → h₁.get? b = some o → h₄.get? b = some o := fun b o hb e => k₄ b o hb (k₃ _ _ e)
  have X₄ : K.In h₄ := fun b o e => k1₄ b o (fun z => by rw [z, hnx] at e; cases e) (X₁ _ _ e)
  have n₄ : h₄.Ns s.heap.objs.size fun y => [(("self" : Str), Value.ref x), (a, v)].reverse.lookup y := by
    obtain ⟨oL, es, ep, e, r⟩ := hL
    exact ⟨oL, es, ep, k1₄ _ _ xL e, r⟩
  -- self.a = a
  refine ks_wpAt_execs_cons (wpAt_of_wpAny (plainObj_wpAny_Assign_Attribute ?_ (hs2 _)))
  refine wpAny_Name (wpAny_loadName_local kd1 la n₄ ma ?_) av4
  refine wpAny_Name (wpAny_loadName_local kd1 lself n₄ msf ?_) (by decide)
  refine set_plain X₄ (ox := excO C _) (od := none) ⟨hx₄, rfl, rfl, trivial⟩ T.sa ?_
  refine exc_osa X₄ hx₄ hcl (show refsVE (.ref C :: bm) = true from hbm) rfl T.noN (fun h₅ tk₅ dx k₅ dn dne hx₅ hn₅ => ?_)
  refine wpAt_of_wpAny (wpAny_execs_nil (hq h₅ tk₅ dx _ ⟨fun b o hb e => k₅ b o hb (k1₄ b o hb (k b o e)), hx₅, Nat.le_trans ?_ dn, dne, hn₅⟩))
  have z : s.heap.objs.size < h₄.objs.size := n₄.lt
  exact Nat.le_of_lt z
structure OwnMade (h h' : Heap) (a : Str) (e C d : Addr) (v : Value) : Prop where
  keep : ∀ b o, h.get? b = some o → h'.get? b = some o
  new : h.objs.size ≤ e
  obj : ∃ oe vs, h'.get? e = some oe ∧ oe.cls = .ref C ∧ oe.dict = some d ∧ oe.data = .fields vs ∧ vs[1]? = some .none
  dbig : h.objs.size ≤ d
  dne : d ≠ e
  ns : h'.Ns1 d (fun y => if y = a then some v else none)
theorem sup_made (T : SupTxt prog K qual a args body scope C fI) (B : SupBody a args body scope) {v : Value} (X : K.In s.heap) (hg : s.heap.Ns mainGlobals mg) (hb : s.heap.Ns builtinsNs mb) (hbb : mb "super" = some (.type "super")) (hlim : s.heap.NoLimit) (hroom : A.depth + 1 < recursionLimit)
    (hq : ∀ h' tk e d, OwnMade s.heap h' a e C d v → R (.ok (.ret (.ref e))) { s with heap := h', toks := tk }) :
    codeAny (model prog w) A (.call (.ref C) ⟨[v], []⟩) R s := by
  obtain ⟨nm, q, N, bs, bm, sn, sub, ab, col, dd, k0, k1, k2, k3, k5, hC, hbm⟩ := T.cls
  obtain ⟨hp, g, dr, tk, os⟩ := s
  have k : ∀ b o, hp.get? b = some o → ((hp.push (kdv_tup [v])).push (excO C hp.objs.size)).get? b = some o := fun b o e => Heap.get?_push_of_some _ (Heap.get?_push_of_some _ e)
  have hget : ((hp.push (kdv_tup [v])).push (excO C hp.objs.size)).get? (hp.objs.size + 1) = some (excO C hp.objs.size) := by heap_get
  have hnx : K.lookup (hp.objs.size + 1) = none := by
    cases e : K.lookup (hp.objs.size + 1) with
    | none => rfl
    | some o =>
      have z : hp.get? (hp.objs.size + 1) = some o := X _ _ e
      exact absurd (Nat.lt_of_succ_lt (Heap.lt_size z)) (Nat.lt_irrefl _)
  refine call_own PySem.F.excBase_ValueError (fun X => refsVE_contains X bm hbm) (X _ _ hC) (looks_findIn X T.iC) (fun self => bind_fn X self T.tC) (one_size v) ?_
  refine sup_init (s := ⟨(hp.push (kdv_tup [v])).push (excO C hp.objs.size), g, dr, tk, os⟩) T B (X.keeps k) (hg.keeps k) (hb.keeps k) hbb (hlim.keeps k) hget hnx ?_ fun h' tk' dx t1 ⟨k', hx, dn, dne, hns⟩ => ?_
  · show A.depth + 1 < recursionLimit
    exact hroom
  · have old : ∀ b o, hp.get? b = some o → h'.get? b = some o := fun b o e => k' b o (Nat.ne_of_lt (Nat.lt_succ_of_lt (Heap.lt_size e))) (k b o e)
    have z : hp.objs.size + 1 + 1 ≤ dx := by
      first
        | (simpa only [Heap.size_push] using dn)
        | exact dn
        | (have q := dn; rw [Heap.size_push, Heap.size_push] at q; exact q)
    exact ⟨rfl, hq h' tk' (hp.objs.size + 1) dx ⟨old, Nat.le_succ _, ⟨_, _, hx, rfl, rfl, rfl, rfl⟩, Nat.le_trans (Nat.le_trans (Nat.le_succ _) (Nat.le_succ _)) z, dne, hns⟩⟩
end
end SupX
end PySem
namespace Dl
open PySem L2
variable [TabN]
mutual
def pyD : D → PyData
  | .non => .none
  | .bl b => .bool b
  | .int i => .int i
  | .str x => .str x
  | .tup ds => .tuple (pyL ds)
  | .lst ds => .list (pyL ds)
  | .dct kvs => .dict (pyK kvs)
  | .raw _ => .none
  | .arg ns => .list (ns.map .int)
  | .tix _ => .none
  | .obj _ _ => .none
  | .exc _ _ _ => .none
  | .fn _ _ _ _ _ => .none
def pyL : List D → List PyData
  | [] => []
  | d :: ds => pyD d :: pyL ds
def pyK : List (Key × D) → List (PyData × PyData)
  | [] => []
  | (k, d) :: r => ((match k with
    | .inl i => .int i
    | .inr x => .str x), pyD d) :: pyK r
end
mutual
/-- none, bools, ints, texts, lists, tuples of such -/
def plainD : D → Bool
  | .tup ds => plainL ds
  | .lst ds => plainL ds
  | .dct _ => false
  | .raw _ => false
  | .arg _ => false
  | .tix _ => false
  | .obj _ _ => false
  | .exc _ _ _ => false
  | .fn _ _ _ _ _ => false
  | _ => true
def plainL : List D → Bool
  | [] => true
  | d :: ds => plainD d && plainL ds
end
section
variable {K : PySem.W.Frag} {A : Addr → Prop} {H : Hp}
mutual
theorem RepV.dp : ∀ {d : D} {v : V}, plainD d = true → RepV K A H v d → Dp K H v (pyD d)
  | .non, _, _, .non => .non
  | .bl b, _, _, .bl _ => .bl b
  | .int i, _, _, .int _ => .int i
  | .str x, _, _, .str _ => .str x
  | .tup ds, _, h, .tup hs r => .tup hs (RepL.dp (by simpa [plainD] using h) r)
  | .lst ds, _, h, .lst hs _ r => .lst (SqL.of hs) (RepL.dp (by simpa [plainD] using h) r)
theorem RepL.dp : ∀ {ds : List D} {vs : List V}, plainL ds = true → RepL K A H vs ds → DpAll K H vs (pyL ds)
  | [], _, _, .nil => .nil
  | d :: ds, _, h, .cons r1 r2 => by
    have h' : plainD d = true ∧ plainL ds = true := by simpa [plainL] using h
    exact .cons (RepV.dp h'.1 r1) (RepL.dp h'.2 r2)
end
theorem Sees.dp {d : D} {v : V} (h : plainD d = true) (s : Sees K A H v d) : Dp K H v (pyD d) := by
  match d, h, s with
  | .lst ds, h, ⟨a, xs, hv, e, r⟩ => subst hv; exact .lst (SqL.of e) (RepL.dp (by simpa [plainD] using h) r)
  | .tup ds, h, s => exact RepV.dp h (show RepV K A H v (.tup ds) from s)
  | .non, h, s => exact RepV.dp h (show RepV K A H v .non from s)
  | .bl b, h, s => exact RepV.dp h (show RepV K A H v (.bl b) from s)
  | .int i, h, s => exact RepV.dp h (show RepV K A H v (.int i) from s)
  | .str x, h, s => exact RepV.dp h (show RepV K A H v (.str x) from s)
theorem sees_str {v : V} {x : Str} (h : Sees K A H v (.str x)) : v = .str x := by
  have h' : RepV K A H v (.str x) := h
  cases h'; rfl
theorem sees_bl {v : V} {x : Bool} (h : Sees K A H v (.bl x)) : v = .bl x := by
  have h' : RepV K A H v (.bl x) := h
  cases h'; rfl
theorem sees_non {v : V} (h : Sees K A H v .non) : v = .non := by
  have h' : RepV K A H v .non := h
  cases h'; rfl
theorem sees_tup {v : V} {ds : List D} (h : Sees K A H v (.tup ds)) : ∃ a xs, v = .ref a ∧ SqT K H a xs ∧ RepL K A H xs ds := by
  have h' : RepV K A H v (.tup ds) := h
  cases h' with
  | tup h1 h2 => exact ⟨_, _, rfl, h1, h2⟩
theorem sees_arg {v : V} {ns : List Int} (h : Sees K A H v (.arg ns)) : ∃ a, v = .ref a ∧ ArgAt K H a ns := by
  have h' : RepV K A H v (.arg ns) := h
  cases h' with
  | arg h => exact ⟨_, rfl, h⟩
end
theorem newF {K : PySem.W.Frag} {A : Addr → Prop} {H H' : Hp} {v : V} {d : D} (r : RepV K A H' v d) : New K A H H' (.fro d) v := r
section
variable {X : Cx}
theorem opD_of {f : Value → Value → Sem Value} {g : D → D → (Slot → Prop) → Prop}
    (h : ∀ (pins : List (Addr × Obj)) (s : Shared) (σ : L2.St) (H : Hp) (x y : V) (v u : Value) (Q : VK) (A : Addr → Prop) (d e : D) (k : Slot → Prop), Inv X pins σ H s → RelV x v → RelV y u → Sees X.K A H x d → Sees X.K A H y e → (∀ a, A a → H a ≠ none) → g d e k →
      (∀ s v H', Ex H H' → New X.K A H H' s v → k s → Q v H') → wpAny (model X.prog X.w) X.A (f v u) (EP X pins σ Q) X.xe s) : OpD X f g :=
  fun pins s σ H x y v u Q I rx ry ⟨A, d, e, k, sd, se, ht, hg, hq⟩ => h pins s σ H x y v u Q A d e k I rx ry sd se ht hg hq
def gI (f : Int → Int → D) : D → D → (Slot → Prop) → Prop
  | .int a, .int b, k => k (.fro (f a b))
  | _, _, _ => False
def gIC (C : Int → Int → Prop) (f : Int → Int → D) : D → D → (Slot → Prop) → Prop
  | .int a, .int b, k => C a b ∧ k (.fro (f a b))
  | _, _, _ => False
theorem opD_I {f : Value → Value → Sem Value} {g : Int → Int → D} {gv : Int → Int → V} (ho : OpR X f (rI0 gv)) (hr : ∀ A H i j, RepV X.K A H (gv i j) (g i j)) : OpD X f (gI g) := opD_of fun pins s σ H x y v u Q A d e k I rx ry sd se ht hg hq => by
  match d, e, hg, sd, se with
  | .int a, .int b, hg, sd, se => exact ho pins s σ H x y v u Q I rx ry ⟨a, b, sees_int sd, sees_int se, hq _ _ H (Ex.refl H) (newF (hr A H a b)) hg⟩
theorem opD_IC {f : Value → Value → Sem Value} {C : Int → Int → Prop} {g : Int → Int → D} {gv : Int → Int → V} (ho : OpR X f (rI C gv)) (hr : ∀ A H i j, RepV X.K A H (gv i j) (g i j)) : OpD X f (gIC C g) := opD_of fun pins s σ H x y v u Q A d e k I rx ry sd se ht hg hq => by
  match d, e, hg, sd, se with
  | .int a, .int b, hg, sd, se => exact ho pins s σ H x y v u Q I rx ry ⟨a, b, sees_int sd, sees_int se, hg.1, hq _ _ H (Ex.refl H) (newF (hr A H a b)) hg.2⟩
def gSub : D → D → (Slot → Prop) → Prop := gI fun a b => .int (a - b)
theorem od_sub : OpD X (binaryOp .Sub) gSub := opD_I op_sub fun _ _ _ _ => .int _
def gFdiv : D → D → (Slot → Prop) → Prop := gIC CDivW fun a b => .int (a / b)
theorem od_fdiv : OpD X (binaryOp .FloorDiv) gFdiv := opD_IC op_fdivW fun _ _ _ _ => .int _
def gMod : D → D → (Slot → Prop) → Prop := gIC (fun _ b => 0 < b) fun a b => .int (a % b)
theorem od_mod : OpD X (binaryOp .Mod) gMod := opD_IC op_mod fun _ _ _ _ => .int _
def CPowB (i j : Int) : Prop := CPow i j ∨ (0 ≤ j ∧ (Builtin.Int.intBits i : Int) * j ≤ 2 ^ 27)
theorem op_powB : OpR X (binaryOp .Pow) (rI CPowB fun i j => .int (i ^ j.toNat)) := opI fun _ _ _ _ _ _ _ hc q => hc.elim (fun hc => PyProof.Rows.pow_int_small hc.1 hc.2.1 hc.2.2 q) fun hc => PyProof.Rows.pow_int hc.1 hc.2 q
def gPow : D → D → (Slot → Prop) → Prop := gIC CPowB fun a b => .int (a ^ b.toNat)
theorem od_pow : OpD X (binaryOp .Pow) gPow := opD_IC op_powB fun _ _ _ _ => .int _
def gLt : D → D → (Slot → Prop) → Prop := gI fun a b => .bl (decide (a < b))
theorem od_lt : OpD X (compareOp .Lt) gLt := opD_I op_lt fun _ _ _ _ => .bl _
def gLe : D → D → (Slot → Prop) → Prop := gI fun a b => .bl (decide (a ≤ b))
theorem od_le : OpD X (compareOp .LtE) gLe := opD_I op_le fun _ _ _ _ => .bl _
def gGt : D → D → (Slot → Prop) → Prop := gI fun a b => .bl (decide (b < a))
theorem od_gt : OpD X (compareOp .Gt) gGt := opD_I op_gt fun _ _ _ _ => .bl _
def gGe : D → D → (Slot → Prop) → Prop := gI fun a b => .bl (decide (b ≤ a))
theorem od_ge : OpD X (compareOp .GtE) gGe := opD_I op_ge fun _ _ _ _ => .bl _
def shD (d : D) : Prop := plainD d = true ∧ SeqAt.shaped (pyD d) = true
def gEq : D → D → (Slot → Prop) → Prop
  | .str x, .str y, k => k (.fro (.bl (decide (x = y))))
  | a, b, k => shD a ∧ shD b ∧ k (.fro (.bl (PyData.eqv (pyD a) (pyD b))))
def gNe : D → D → (Slot → Prop) → Prop
  | .str x, .str y, k => k (.fro (.bl (!decide (x = y))))
  | a, b, k => shD a ∧ shD b ∧ k (.fro (.bl (!PyData.eqv (pyD a) (pyD b))))
theorem gEq_sh {a b : D} {k : Slot → Prop} (h1 : shD a) (h2 : shD b) : gEq a b k = k (.fro (.bl (PyData.eqv (pyD a) (pyD b)))) := by
  unfold gEq
  split
  · rename_i k' x y
    have e : PyData.eqv (pyD (.str x)) (pyD (.str y)) = decide (x = y) := Bool.beq_eq_decide_eq x y
    rw [e]
  · exact propext ⟨fun h => h.2.2, fun h => ⟨h1, h2, h⟩⟩
theorem gNe_sh {a b : D} {k : Slot → Prop} (h1 : shD a) (h2 : shD b) : gNe a b k = k (.fro (.bl (!PyData.eqv (pyD a) (pyD b)))) := by
  unfold gNe
  split
  · rename_i k' x y
    have e : PyData.eqv (pyD (.str x)) (pyD (.str y)) = decide (x = y) := Bool.beq_eq_decide_eq x y
    rw [e]
  · exact propext ⟨fun h => h.2.2, fun h => ⟨h1, h2, h⟩⟩
theorem gEq_str {x y : Str} {k : Slot → Prop} : gEq (.str x) (.str y) k = k (.fro (.bl (decide (x = y)))) := rfl
theorem gNe_str {x y : Str} {k : Slot → Prop} : gNe (.str x) (.str y) k = k (.fro (.bl (!decide (x = y)))) := rfl
theorem od_eq (hu : X.A.units + 64 < cLine) : OpD X (compareOp .Eq) gEq := opD_of fun pins s σ H x y v u Q A d e k I rx ry sd se ht hg hq => by
  unfold gEq at hg
  split at hg
  · rename_i k' a b
    have h1 := sees_str sd; subst h1
    have h2 := sees_str se; subst h2
    refine op_eq pins s σ H _ _ v u Q I rx ry ⟨rfl, ?_⟩
    have e : decide (V.str a = V.str b) = decide (a = b) := decide_eq_decide.mpr ⟨fun z => by injection z, fun z => by rw [z]⟩
    rw [e]
    exact hq _ _ H (Ex.refl H) (newF (.bl _)) hg
  · obtain ⟨⟨p1, s1⟩, ⟨p2, s2⟩, hk⟩ := hg
    exact op_eqD hu pins s σ H x y v u Q I rx ry ⟨_, _, sd.dp p1, se.dp p2, s1, s2, hq _ _ H (Ex.refl H) (newF (.bl _)) hk⟩
theorem od_ne (hu : X.A.units + 64 < cLine) : OpD X (compareOp .NotEq) gNe := opD_of fun pins s σ H x y v u Q A d e k I rx ry sd se ht hg hq => by
  unfold gNe at hg
  split at hg
  · rename_i k' a b
    have h1 := sees_str sd; subst h1
    have h2 := sees_str se; subst h2
    refine op_ne pins s σ H _ _ v u Q I rx ry ⟨rfl, ?_⟩
    have e : decide (V.str a = V.str b) = decide (a = b) := decide_eq_decide.mpr ⟨fun z => by injection z, fun z => by rw [z]⟩
    rw [e]
    exact hq _ _ H (Ex.refl H) (newF (.bl _)) hg
  · obtain ⟨⟨p1, s1⟩, ⟨p2, s2⟩, hk⟩ := hg
    exact op_neD hu pins s σ H x y v u Q I rx ry ⟨_, _, sd.dp p1, se.dp p2, s1, s2, hq _ _ H (Ex.refl H) (newF (.bl _)) hk⟩
def isNon : D → Bool
  | .non => true
  | _ => false
def gIsN : D → D → (Slot → Prop) → Prop
  | .raw _, _, _ => False
  | d, .non, k => k (.fro (.bl (isNon d)))
  | _, _, _ => False
def gNotN : D → D → (Slot → Prop) → Prop
  | .raw _, _, _ => False
  | d, .non, k => k (.fro (.bl (!isNon d)))
  | _, _, _ => False
theorem sees_isN {K : PySem.W.Frag} {A : Addr → Prop} {H : Hp} {v : V} {d : D} (h : Sees K A H v d) (n : ∀ r, d ≠ .raw r) : decide (v = .non) = isNon d := by
  match d, h, n with
  | .non, h, _ => cases sees_non h; rfl
  | .bl b, h, _ => cases sees_bl h; rfl
  | .int i, h, _ => cases sees_int h; rfl
  | .str i, h, _ => cases sees_str h; rfl
  | .tup ds, h, _ => obtain ⟨a, xs, rfl, _⟩ := sees_tup h; rfl
  | .lst ds, ⟨a, xs, hv, _⟩, _ => subst hv; rfl
  | .dct ds, ⟨a, xs, hv, _⟩, _ => subst hv; rfl
  | .arg ns, h, _ => obtain ⟨a, rfl, _⟩ := sees_arg h; rfl
  | .tix ys, h, _ => have h' : RepV K A H v (.tix ys) := h; cases h'; rfl
  | .obj c fs, ⟨a, C, dx, xs, hv, _⟩, _ => subst hv; rfl
  | .exc c f w, h, _ => have h' : RepV K A H v (.exc c f w) := h; cases h'; rfl
  | .fn f c q vs ds, h, _ => have h' : RepV K A H v (.fn f c q vs ds) := h; cases h'; rfl
  | .raw r, h, n => exact absurd rfl (n r)
theorem gIsN_get {d e : D} {k : Slot → Prop} (h : gIsN d e k) : (∀ r, d ≠ .raw r) ∧ e = .non ∧ k (.fro (.bl (isNon d))) := by
  cases d <;> cases e <;> first | exact h.elim | exact ⟨nofun, rfl, h⟩
theorem gNotN_get {d e : D} {k : Slot → Prop} (h : gNotN d e k) : (∀ r, d ≠ .raw r) ∧ e = .non ∧ k (.fro (.bl (!isNon d))) := by
  cases d <;> cases e <;> first | exact h.elim | exact ⟨nofun, rfl, h⟩
theorem od_isN : OpD X (compareOp .Is) gIsN := opD_of fun pins s σ H x y v u Q A d e k I rx ry sd se ht hg hq => by
  obtain ⟨n, rfl, hk⟩ := gIsN_get hg
  exact op_isN pins s σ H x y v u Q I rx ry ⟨sees_non se, by rw [sees_isN sd n]; exact hq _ _ H (Ex.refl H) (newF (.bl _)) hk⟩
theorem od_notN : OpD X (compareOp .IsNot) gNotN := opD_of fun pins s σ H x y v u Q A d e k I rx ry sd se ht hg hq => by
  obtain ⟨n, rfl, hk⟩ := gNotN_get hg
  exact op_notN pins s σ H x y v u Q I rx ry ⟨sees_non se, by rw [sees_isN sd n]; exact hq _ _ H (Ex.refl H) (newF (.bl _)) hk⟩
theorem new_lst {K : PySem.W.Frag} {A : Addr → Prop} {H : Hp} {p : Addr} {vs : List V} {ds : List D} {b : Bool} (np : H p = none) (r : RepL K A H vs ds) : New K A H (L2.upd H p (.lst vs)) (.own b (.lst ds)) (.ref p) :=
  ⟨p, rfl, np, vs, upd_same, r.mono (S := fun _ => False) (Ex.new np).kp (fun _ z => z.elim) fun x z => z.elim .inl fun z => .inr (by rw [z]; exact np)⟩
theorem new_tup {K : PySem.W.Frag} {A : Addr → Prop} {H : Hp} {p : Addr} {vs : List V} {ds : List D} (np : H p = none) (r : RepL K A H vs ds) : New K A H (L2.upd H p (.tup vs)) (.fro (.tup ds)) (.ref p) :=
  .tup (SqT.of upd_same) (r.mono (S := fun _ => False) (Ex.new np).kp (fun _ z => z.elim) fun _ z => .inl z)
def gAdd : D → D → (Slot → Prop) → Prop
  | .int a, .int b, k => k (.fro (.int (a + b)))
  | .str a, .str b, k => a.length + b.length ≤ sizeLine ∧ k (.fro (.str (a ++ b)))
  | .lst a, .lst b, k => a.length + b.length ≤ sizeLine ∧ k (.own false (.lst (a ++ b)))
  | .tup a, .tup b, k => a.length + b.length ≤ sizeLine ∧ k (.fro (.tup (a ++ b)))
  | _, _, _ => False
theorem od_add : OpD X (binaryOp .Add) gAdd := opD_of fun pins s σ H x y v u Q A d e k I rx ry sd se ht hg hq => by
  match d, e, hg, sd, se with
  | .int a, .int b, hg, sd, se => exact op_add pins s σ H x y v u Q I rx ry ⟨a, b, sees_int sd, sees_int se, hq _ _ H (Ex.refl H) (newF (.int _)) hg⟩
  | .str a, .str b, hg, sd, se => exact op_add_str pins s σ H x y v u Q I rx ry ⟨a, b, sees_str sd, sees_str se, hg.1, hq _ _ H (Ex.refl H) (newF (.str _)) hg.2⟩
  | .lst a, .lst b, hg, ⟨p, xs, hv, e1, r1⟩, ⟨p2, ys, hv2, e2, r2⟩ =>
    exact op_cat pins s σ H x y v u Q I rx ry ⟨p, p2, xs, ys, hv, hv2, e1, e2, by rw [r1.length, r2.length]; exact hg.1, fun q nq => hq _ _ _ (Ex.new nq) (new_lst nq (r1.append r2)) hg.2⟩
  | .tup a, .tup b, hg, sd, se =>
    obtain ⟨p, xs, rfl, e1, r1⟩ := sees_tup sd
    obtain ⟨p2, ys, rfl, e2, r2⟩ := sees_tup se
    refine op_catA pins s σ H _ _ v u Q I rx ry ⟨p, p2, xs, ys, rfl, rfl, e1, e2, by rw [r1.length, r2.length]; exact hg.1, fun z => ?_, fun _ z => ?_, fun _ _ q nq => hq _ _ _ (Ex.new nq) (new_tup nq (r1.append r2)) hg.2⟩
    · subst z
      cases r1
      exact hq _ _ H (Ex.refl H) (newF (.tup e2 r2)) hg.2
    · subst z
      cases r2
      refine hq _ _ H (Ex.refl H) (newF (d := .tup (a ++ [])) ?_) hg.2
      rw [List.append_nil]
      exact .tup e1 r1
def gMul : D → D → (Slot → Prop) → Prop
  | .int a, .int b, k => CMulW a b ∧ k (.fro (.int (a * b)))
  | .lst a, .int n, k => (-(2 ^ 63) ≤ n ∧ n < 2 ^ 63 ∧ a.length * n.toNat ≤ sizeLine) ∧ k (.own false (.lst (List.replicate n.toNat a).flatten))
  | _, _, _ => False
theorem RepL.rep {K : PySem.W.Frag} {A : Addr → Prop} {H : Hp} {vs : List V} {ds : List D} (h : RepL K A H vs ds) : ∀ n : Nat, RepL K A H (List.replicate n vs).flatten (List.replicate n ds).flatten
  | 0 => .nil
  | n + 1 => by
    rw [List.replicate_succ, List.flatten_cons, List.replicate_succ, List.flatten_cons]
    exact h.append (RepL.rep h n)
theorem od_mul : OpD X (binaryOp .Mult) gMul := opD_of fun pins s σ H x y v u Q A d e k I rx ry sd se ht hg hq => by
  match d, e, hg, sd, se with
  | .int a, .int b, hg, sd, se => exact op_mulW pins s σ H x y v u Q I rx ry ⟨a, b, sees_int sd, sees_int se, hg.1, hq _ _ H (Ex.refl H) (newF (.int _)) hg.2⟩
  | .lst a, .int n, hg, ⟨p, xs, hv, e1, r1⟩, se =>
    exact op_rep pins s σ H x y v u Q I rx ry ⟨p, n, xs, hv, sees_int se, e1, hg.1.1, hg.1.2.1, by rw [r1.length]; exact hg.1.2.2, fun q nq => hq _ _ _ (Ex.new nq) (new_lst nq (r1.rep _)) hg.2⟩
end
end Dl
namespace Dl
open PySem L2
variable [TabN]
section
variable {X : Cx} {a b c : Expr} {pos : Pos} {w1 w2 w3 : WE}
def gIx : D → D → (Slot → Prop) → Prop
  | .lst ds, .int i, k => (match atI ds i with
    | some d => k (.fro d)
    | none => False)
  | .tup ds, .int i, k => (match atI ds i with
    | some d => k (.fro d)
    | none => False)
  | .arg ns, .int i, k => (match atI ns i with
    | some n => k (.fro (.int n))
    | none => False)
  | .str z, .int i, k => z.length ≤ sizeLine ∧ (match atI z.cps.toList i with
    | some n => k (.fro (.str ⟨#[n]⟩))
    | none => False)
  | _, _, _ => False
theorem atI_rep {K : PySem.W.Frag} {A : Addr → Prop} {H : Hp} {vs : List V} {ds : List D} {i : Int} {d : D} (r : RepL K A H vs ds) (h : atI ds i = some d) : ∃ v, atI vs i = some v ∧ RepV K A H v d := by
  unfold atI at h ⊢
  rw [← r.length] at h
  cases e : ixN vs.length i with
  | none => rw [e] at h; cases h
  | some j =>
    rw [e] at h
    have h : ds[j]? = some d := h
    obtain ⟨v, e1, rv⟩ := r.get h
    exact ⟨v, e1, rv⟩
theorem ix_all : IxR X (rD X.K gIx) := by
  have hI : IxR X (rIx X.K) := ix_seq
  intro value slice pins s σ H x y v u Q I rx ry ⟨A, d, e, k, sd, se, ht, hg, hq⟩ hs
  refine hI value slice pins s σ H x y v u Q I rx ry ?_ hs
  match d, e, hg, sd, se with
  | .lst ds, .int i, hg, ⟨p, xs, hv, e1, r1⟩, se =>
    cases e : atI ds i with
    | none => simp only [gIx, e] at hg
    | some d' =>
      simp only [gIx, e] at hg
      obtain ⟨z, f1, rz⟩ := atI_rep r1 e
      exact .inl ⟨p, xs, i, z, hv, sees_int se, SqL.of e1, f1, hq _ _ H (Ex.refl H) (newF rz) hg⟩
  | .tup ds, .int i, hg, sd, se =>
    obtain ⟨p, xs, rfl, e1, r1⟩ := sees_tup sd
    cases e : atI ds i with
    | none => simp only [gIx, e] at hg
    | some d' =>
      simp only [gIx, e] at hg
      obtain ⟨z, f1, rz⟩ := atI_rep r1 e
      exact .inr (.inl ⟨p, xs, i, z, rfl, sees_int se, e1, f1, hq _ _ H (Ex.refl H) (newF rz) hg⟩)
  | .arg ns, .int i, hg, sd, se =>
    obtain ⟨p, rfl, e1⟩ := sees_arg sd
    cases e : atI ns i with
    | none => simp only [gIx, e] at hg
    | some n =>
      simp only [gIx, e] at hg
      refine .inl ⟨p, _, i, .int n, rfl, sees_int se, e1.sq, ?_, hq _ _ H (Ex.refl H) (newF (.int n)) hg⟩
      unfold atI at e ⊢
      rw [List.length_map]
      cases q : ixN ns.length i with
      | none => rw [q] at e; cases e
      | some j =>
        rw [q] at e
        have e : ns[j]? = some n := e
        show (ns.map V.int)[j]? = _
        rw [List.getElem?_map, e]; rfl
  | .str z, .int i, hg, sd, se =>
    obtain ⟨hl, hg⟩ := hg
    cases e : atI z.cps.toList i with
    | none => simp only [e] at hg
    | some n =>
      simp only [e] at hg
      exact .inr (.inr ⟨z, i, n, sees_str sd, sees_int se, hl, e, hq _ _ H (Ex.refl H) (newF (.str _)) hg⟩)
theorem me_ix (ha : ME X a w1) (hb : ME X b w2) (hs : PlainIx b) : ME X (.Subscript a b pos) (wOp gIx w1 w2) :=
  me_of (pe_ix ix_all ha hb hs) fun B ρ σ H Q' Q R hw hq => wOp_ok R hw hq
def cutD (xs : List D) (lo hi : Option Int) : List D := (xs.drop (HT.sIx xs.length 0 lo)).take (HT.sIx xs.length xs.length hi - HT.sIx xs.length 0 lo)
def gSl : D → Option Int → Option Int → (Slot → Prop) → Prop
  | .lst ds, lo, hi, k => k (.own false (.lst (cutD ds lo hi)))
  | .tup ds, lo, hi, k => k (.fro (.tup (cutD ds lo hi)))
  | _, _, _, _ => False
theorem cut_rep {K : PySem.W.Frag} {A : Addr → Prop} {H : Hp} {vs : List V} {ds : List D} {lo hi : Option Int} (r : RepL K A H vs ds) : RepL K A H (cutV vs lo hi) (cutD ds lo hi) := by
  unfold cutV cutD
  rw [r.length]
  exact (r.drop _).take _
def rSlD (K : PySem.W.Frag) : V → Option Int → Option Int → Hp → VK → Prop := fun x lo hi H Q => ∃ (A : Addr → Prop) (d : D) (k : Slot → Prop), Sees K A H x d ∧ gSl d lo hi k ∧ ∀ s v H', Ex H H' → New K A H H' s v → k s → Q v H'
theorem sl_all : SlR X (rSlD X.K) := by
  intro pins s σ H x v vl vu lo hi sl Q I rx hs pl pu ⟨A, d, k, sd, hg, hq⟩
  match d, hg, sd with
  | .lst ds, hg, ⟨p, xs, hv, e1, r1⟩ =>
    exact sl_list pins s σ H x v vl vu lo hi sl Q I rx hs pl pu ⟨p, xs, hv, SqL.of e1, fun q nq => hq _ _ _ (Ex.new nq) (new_lst nq (cut_rep r1)) hg⟩
  | .tup ds, hg, sd =>
    obtain ⟨p, xs, rfl, e1, r1⟩ := sees_tup sd
    refine sl_tupA pins s σ H _ v vl vu lo hi sl Q I rx hs pl pu ⟨p, xs, rfl, e1, fun ⟨h1, h2⟩ => ?_, fun _ q nq => hq _ _ _ (Ex.new nq) (new_tup nq (cut_rep r1)) hg⟩
    have e : cutD ds lo hi = ds := by
      unfold cutD
      rw [← r1.length, h1, h2, r1.length]
      simp
    refine hq _ _ H (Ex.refl H) (newF (d := .tup (cutD ds lo hi)) ?_) hg
    rw [e]
    exact .tup e1 r1
abbrev WO := List Slot → (Option Int → List Slot → Prop) → Prop
def toOf (K : PySem.W.Frag) (w : WO) : TO := fun σ H Q => ∃ (B : Addr → Prop) (ρ : List Slot) (Q' : Option Int → List Slot → Prop), Rep K B ρ σ H ∧ w ρ Q' ∧
  ∀ o ρ' H', Rep K B ρ' σ H' → Sub ρ' ρ → Kp (Own ρ σ) H H' → Q' o ρ' → Q o H'
def MO (X : Cx) (e : Option Expr) (w : WO) : Prop := PO X e (toOf X.K w)
def wNoP : WO := fun ρ Q => Q none ρ
def wP (w : WE) : WO := fun ρ Q => w ρ fun s ρ' => match s with
  | .fro (.int i) => Q (some i) ρ'
  | _ => False
theorem PO_weak {e : Option Expr} {t t' : TO} (h : PO X e t) (k : ∀ σ H Q, t' σ H Q → t σ H Q) : PO X e t' := ⟨fun pins s σ H Q I q => h.run pins s σ H Q I (k σ H Q q)⟩
theorem mo_none : MO X none wNoP := PO_weak po_none fun σ H Q ⟨B, ρ, Q', R, hw, hq⟩ => hq none ρ H R (Sub.refl ρ) Kp.refl hw
theorem mo_some (h : ME X a w1) : MO X (some a) (wP w1) := PO_weak (po_some h) fun σ H Q ⟨B, ρ, Q', R, hw, hq⟩ => by
  refine ⟨B, ρ, _, R, hw, fun s v ρ' H' post sub kp q => ?_⟩
  match s, post, q with
  | .fro (.int i), ⟨R', r⟩, q => cases r; exact ⟨i, rfl, hq _ ρ' H' R' sub kp q⟩
def wSl (w : WE) (wl wh : WO) : WE := fun ρ Q => w ρ fun s ρ1 => wl ρ1 fun lo ρ2 => wh ρ2 fun hi ρ3 => match lookD ρ3 s with
  | some d => gSl d lo hi fun r => Q r ρ3
  | none => False
theorem me_slice {lo hi : Option Expr} {wl wh : WO} {p2 : Pos} (he : ME X a w1) (hl : MO X lo wl) (hu : MO X hi wh) : ME X (.Subscript a (.Slice lo hi none p2) pos) (wSl w1 wl wh) :=
  me_of (pe_slice sl_all he hl hu) fun B ρ σ H Q' Q R hw hq => by
    refine ⟨B, ρ, _, R, hw, fun s v ρ1 H1 post sub kp q => ?_⟩
    obtain ⟨B1, b1, b1', R1, P1⟩ := post.pend
    refine ⟨B1, ρ1, _, R1, q, fun l ρ2 H2 R2 s2 k2 q2 => ⟨B1, ρ2, _, R2, q2, fun h ρ3 H3 R3 s3 k3 q3 => ?_⟩⟩
    have P3 := (P1.step R1 k2 s2 (fun _ z => z) fun _ z => .inl z).step R2 k3 s3 (fun _ z => z) fun _ z => .inl z
    cases e : lookD ρ3 s with
    | none => rw [e] at q3; exact q3.elim
    | some d =>
      rw [e] at q3
      have kk := (kp.trans k2 fun x z => sub.own x z).trans k3 fun x z => sub.own x (s2.own x z)
      exact ⟨_, d, _, P3.sees R3 e, q3, fun r y H' ex n hk => hq r y ρ3 H' (n.post R3 b1 kk ex) ((sub.trans s2).trans s3) (kk.trans ex.kp fun _ z => z) hk⟩
def wChain (g g' : D → D → (Slot → Prop) → Prop) (w1 w2 w3 : WE) : WE := fun ρ Q => w1 ρ fun s1 ρ1 => w2 ρ1 fun s2 ρ2 => with2 ρ2 s1 s2 fun d1 d2 => g d1 d2 fun r => match r with
  | .fro (.bl k) => if k = true then w3 ρ2 fun s3 ρ3 => with2 ρ3 s2 s3 fun e2 e3 => g' e2 e3 fun r' => Q r' ρ3 else Q (.fro (.bl false)) ρ2
  | _ => False
theorem chain_ok {K : PySem.W.Frag} {g g' : D → D → (Slot → Prop) → Prop} {B : Addr → Prop} {ρ : List Slot} {σ : L2.St} {H : Hp} {Q' : Slot → List Slot → Prop} {Q : VK} (R : Rep K B ρ σ H) (hw : wChain g g' w1 w2 w3 ρ Q')
    (hq : ∀ s v ρ' H', Post K B ρ' σ H H' s v → Sub ρ' ρ → Kp (Own ρ σ) H H' → Q' s ρ' → Q v H') : tChain (rD K g) (rD K g') (tOf K w1) (tOf K w2) (tOf K w3) σ H Q := by
  refine seq2 R hw fun s1 s2 x y ρ2 B2 H2 b2 b2' R2 P1 P2 sub kp q => ?_
  obtain ⟨d1, d2, e1, e2, q⟩ := with2_get q
  refine ⟨_, d1, d2, _, P1.sees R2 e1, P2.sees R2 e2, fun a z => R2.av_trk z, q, fun s v H' ex n h => ?_⟩
  match s, n, h with
  | .fro (.bl kk), n, h =>
    have n' : RepV K _ H' v (.bl kk) := n
    cases n'
    have R3 := R2.ex (B' := B2) ex fun a z => .inl z
    have kp3 : Kp (Own ρ σ) H H' := kp.trans ex.kp fun _ z => z
    refine ⟨kk, rfl, ?_⟩
    cases kk with
    | false => exact hq _ _ ρ2 H' (postF (R3.fewer b2) (.bl false)) sub kp3 h
    | true =>
      refine ⟨B2, ρ2, _, R3, h, fun s3 z ρ4 H4 post s4 k4 q4 => ?_⟩
      obtain ⟨B4, b4, b4', R4, P4⟩ := post.pend
      obtain ⟨d3, d4, e3, e4, q4⟩ := with2_get q4
      have P2' := (P2.step R2 (ex.kp (S := Own ρ2 σ)) (Sub.refl ρ2) (fun _ z => z) fun _ z => .inl z).step R3 k4 s4 b4 b4'
      have kp4 := kp3.trans k4 fun a z => sub.own a z
      exact ⟨_, d3, d4, _, P2'.sees R4 e3, P4.sees R4 e4, fun a z => R4.av_trk z, q4, fun s v H5 ex5 n5 h5 => hq s v ρ4 H5 (n5.post R4 (fun a z => b4 a (b2 a z)) kp4 ex5) (sub.trans s4) (kp4.trans ex5.kp fun _ z => z) h5⟩
theorem mt_chain {op op' : CmpOp} {g g' : D → D → (Slot → Prop) → Prop} (ho : OpD X (compareOp op) g) (ho' : OpD X (compareOp op') g') (ha : ME X a w1) (hb : ME X b w2) (hc : ME X c w3)
    (hm : lastMarks [op, op'] [b, c] = false := by with_unfolding_all rfl) : MT X (.Compare a [op, op'] [b, c] pos) (wB (wChain g g' w1 w2 w3)) :=
  mt_of (pt_chain ho ho' ha hb hc hm) fun B ρ σ H Q' Q R hw hq => by
    refine chain_ok R hw fun s v ρ' H' post sub kp q => ?_
    match s, post, q with
    | .fro (.bl b), ⟨R', r⟩, q => cases r; exact ⟨b, rfl, hq b ρ' H' R' sub kp q⟩
def wNeg (w : WE) : WE := fun ρ Q => w ρ fun s ρ' => match s with
  | .fro (.int i) => Q (.fro (.int (-i))) ρ'
  | _ => False
theorem me_neg (ha : ME X a w1) : ME X (.UnaryOp .USub a pos) (wNeg w1) := me_of (pe_un un_neg ha) fun B ρ σ H Q' Q R hw hq => by
  refine ⟨B, ρ, _, R, hw, fun s v ρ' H' post sub kp q => ?_⟩
  match s, post, q with
  | .fro (.int i), ⟨R', r⟩, q => cases r; exact ⟨i, rfl, hq _ _ ρ' H' (postF R' (.int _)) sub kp q⟩
end
end Dl
namespace Dl
open PySem PySem.Spec PyProof.Rows L2
variable [TabN]
section
variable {prog : Program} {w : World} {A : Around} {E : Value → Shared → Prop} {s : Shared}
theorem collectT {l : Addr} {vs : List Value} {Q : List Value → Shared → Prop} (hl : IsTup s.heap l vs.toArray) (hsz : vs.length ≤ sizeLine)
    (h : Q vs { s with heap := (s.heap.push (seqObj "list" #[] 0)).update s.heap.objs.size (Obj.mapSeq (· ++ vs.toArray)) }) : wpAny (model prog w) A (collect (.ref l)) Q E s := by
  obtain ⟨o, ho, hc, n, hd⟩ := hl
  unfold collect
  refine wpAny_bind (wpAny_runValue (codeAny_builtin entry_proto_collect' ?_))
  show wpAny _ _ (newList [] >>= fun l0 => again (.builtin "list.__iadd__" ⟨[l0, .ref l], []⟩)) _ _ s
  refine wpAny_bind (wpAny_newList (wpAny_pure ⟨Code.quiet_builtin _ (by decide +kernel), codeAny_builtin entry_list_iadd' ?_⟩))
  show wpAny _ _ (Builtin.List.listExtendWith (.ref s.heap.objs.size) (.ref l) (.ref s.heap.objs.size)) _ _ { s with heap := s.heap.push (seqObj "list" #[] 0) }
  unfold Builtin.List.listExtendWith
  have ho' : (s.heap.push (seqObj "list" #[] 0)).get? l = some o := Heap.get?_push_of_some _ ho
  have hN : (s.heap.push (seqObj "list" #[] 0)).get? s.heap.objs.size = some (seqObj "list" #[] 0) := Heap.get?_push_size _ rfl
  refine wpAny_bind (wpAny_typeOf (T := "tuple") ⟨o, ho', hc⟩ ?_)
  rw [if_pos (by rw [show (Value.type "tuple" == Value.type "tuple") = true from rfl, Bool.or_true])]
  refine wpAny_bind (listItems_at ho' hd ?_)
  refine wpAny_bind (listItems_at (xs := #[]) (n := 0) hN rfl ?_)
  rw [if_neg (by simp)]
  refine wpAny_bind (listUpdate_at (xs := #[]) (n := 0) hN rfl ?_ (Nat.zero_le _) (by simp; omega))
  refine wpAny_pure ?_
  show wpAny (model prog w) A (load s.heap.objs.size >>= fun o => match o.data with
      | .seq xs _ => pure xs.toList
      | _ => unsupported "internal:collect") Q E _
  refine wpAny_bind (wpAny_load (get?_update_seq hN _) ?_)
  show wpAny _ _ (pure ((#[] : Array Value) ++ vs.toArray).toList) Q E _
  have e : ((#[] : Array Value) ++ vs.toArray).toList = vs := by simp
  rw [e]
  exact wpAny_pure h
theorem sortedT {l : Addr} {vs : List Value} {k : Value → Int × Int} {Q : Value → Shared → Prop} (hl : IsTup s.heap l vs.toArray) (hz : vs.length ≤ sizeLine) (hp : ∀ v ∈ vs, Srt.IsPair s.heap v (k v).1 (k v).2)
    (h : ∀ (h' : Heap) (d : Addr) (out : List Value), SrtO.Srtd (fun v u => SrtO.lexB (k v) (k u)) out → SrtO.Stb (fun v u => SrtO.lexB (k v) (k u)) out vs → (∀ b o, s.heap.get? b = some o → h'.get? b = some o) → s.heap.objs.size ≤ d →
      (∃ n, h'.get? d = some (seqObj "list" out.toArray n)) → Q (.ref d) { s with heap := h' }) : wpAny (model prog w) A (call (.builtin "sorted") [.ref l]) Q E s := by
  refine Calls.call_function_entry kind_sorted plain_sorted entry_sorted (args_sorted1 _) ?_
  unfold Builtin.«sorted»
  refine wpAny_bind (m := checkCount "sorted" 1 1 _) (wpAny_pure (wpAny_bind (collectT hl hz (wpAny_bind (wpAny_newList ?_ hz)))))
  let hA := (s.heap.push (seqObj "list" #[] 0)).update s.heap.objs.size (Obj.mapSeq (· ++ vs.toArray))
  have hsz : hA.objs.size = s.heap.objs.size + 1 := by rw [Heap.size_update, size_push']
  have hoL : (hA.push (seqObj "list" vs.toArray 0)).get? (s.heap.objs.size + 1) = some (seqObj "list" vs.toArray 0) := by
    rw [← hsz]; exact Heap.get?_push_size _ rfl
  have keep : ∀ b o, s.heap.get? b = some o → b ≠ s.heap.objs.size + 1 ∧ (hA.push (seqObj "list" vs.toArray 0)).get? b = some o := fun b o q => by
    have hlt := Heap.lt_size q
    refine ⟨Nat.ne_of_lt (Nat.lt_succ_of_lt hlt), Heap.get?_push_of_some _ ?_⟩
    rw [Heap.get?_update_ne _ _ _ _ (Nat.ne_of_lt hlt)]
    exact Heap.get?_push_of_some _ q
  show wpAny _ _ _ _ _ { s with heap := hA.push (seqObj "list" vs.toArray 0) }
  rw [hsz]
  refine wpAny_bind (wpAny_holding (wpAny_call_entry slot_list_sort ⟨_, hoL, rfl⟩ entry_list_sort (SrtO.list_sort_ord (SrtO.swo_lex k) hoL hz (fun h2 => ?_) fun out hs hb => ⟨_, rfl, ?_⟩) (args_list_sort _)))
  · refine SrtO.pairs_sortableO (by omega) (fun v hm => (hp v hm).keeps fun b o e _ => (keep b o e).2) fun o e c => ?_
    have e' : some o = some (seqObj "list" vs.toArray 0) := e.symm.trans hoL
    cases e'
    exact absurd (Value.type.inj c) (by decide)
  · exact wpAny_pure ⟨_, rfl, h _ _ out hs hb (fun b o e => sortedAll_old e) (Nat.le_succ _) (sortedAll_at s.heap vs out.toArray)⟩
end
section
variable {X : Cx}
theorem callD_of {f : Value} {g : List D → (Dl.Slot → Prop) → Prop}
    (h : ∀ (pins : List (Addr × Obj)) (s : Shared) (σ : L2.St) (H : Hp) (vs : List V) (us : List Value) (Q : VK) (A : Addr → Prop) (ds : List D) (k : Dl.Slot → Prop), Inv X pins σ H s → Vals vs us → SeesL X.K A H vs ds → (∀ a, A a → H a ≠ none) → g ds k →
      (∀ s v H', Ex H H' → New X.K A H H' s v → k s → Q v H') → wpAny (model X.prog X.w) X.A (call f us) (EP X pins σ Q) X.xe s) : CallD X f g :=
  fun pins s σ H vs us Q I r ⟨A, ds, k, sl, ht, hg, hq⟩ => h pins s σ H vs us Q A ds k I r sl ht hg hq
def gLen : List D → (Dl.Slot → Prop) → Prop
  | [.lst ds], k => k (.fro (.int ds.length))
  | [.tup ds], k => k (.fro (.int ds.length))
  | [.arg ns], k => k (.fro (.int ns.length))
  | [.str z], k => z.length ≤ sizeLine ∧ k (.fro (.int z.length))
  | _, _ => False
theorem cd_len : CallD X (.builtin "len") gLen := callD_of fun pins s σ H vs us Q A ds k I r sl ht hg hq => by
  match ds, hg, sl with
  | [.lst ds], hg, sl =>
    obtain ⟨v, rfl, p, xs, rfl, e, rl⟩ := seesL1 sl
    exact call_len_seq pins s σ H _ us Q I r ⟨p, xs, rfl, .inl (SqL.of e), by rw [rl.length]; exact hq _ _ H (Ex.refl H) (newF (.int _)) hg⟩
  | [.tup ds], hg, sl =>
    obtain ⟨v, rfl, sv⟩ := seesL1 sl
    obtain ⟨p, xs, rfl, e, rl⟩ := sees_tup sv
    exact call_len_seq pins s σ H _ us Q I r ⟨p, xs, rfl, .inr e, by rw [rl.length]; exact hq _ _ H (Ex.refl H) (newF (.int _)) hg⟩
  | [.arg ns], hg, sl =>
    obtain ⟨v, rfl, sv⟩ := seesL1 sl
    obtain ⟨p, rfl, e⟩ := sees_arg sv
    exact call_len_seq pins s σ H _ us Q I r ⟨p, _, rfl, .inl e.sq, by rw [List.length_map]; exact hq _ _ H (Ex.refl H) (newF (.int _)) hg⟩
  | [.str z], hg, sl =>
    obtain ⟨v, rfl, sv⟩ := seesL1 sl
    cases sees_str sv
    exact call_len_str pins s σ H _ us Q I r ⟨z, rfl, hg.1, hq _ _ H (Ex.refl H) (newF (.int _)) hg.2⟩
def gAbs : List D → (Dl.Slot → Prop) → Prop
  | [.int i], k => k (.fro (.int (if i < 0 then -i else i)))
  | _, _ => False
theorem cd_abs : CallD X (.builtin "abs") gAbs := callD_of fun pins s σ H vs us Q A ds k I r sl ht hg hq => by
  match ds, hg, sl with
  | [.int i], hg, sl =>
    obtain ⟨v, rfl, sv⟩ := seesL1 sl
    cases sees_int sv
    exact call_abs pins s σ H _ us Q I r ⟨i, rfl, hq _ _ H (Ex.refl H) (newF (.int _)) hg⟩
def gInt1 : List D → (Dl.Slot → Prop) → Prop
  | [.int i], k => k (.fro (.int i))
  | [.bl b], k => k (.fro (.int (if b then 1 else 0)))
  | _, _ => False
theorem cd_int : CallD X (.type "int") gInt1 := callD_of fun pins s σ H vs us Q A ds k I r sl ht hg hq => by
  match ds, hg, sl with
  | [.int i], hg, sl =>
    obtain ⟨v, rfl, sv⟩ := seesL1 sl
    cases sees_int sv
    exact call_int1 pins s σ H _ us Q I r (.inl ⟨i, rfl, hq _ _ H (Ex.refl H) (newF (.int _)) hg⟩)
  | [.bl b], hg, sl =>
    obtain ⟨v, rfl, sv⟩ := seesL1 sl
    cases sees_bl sv
    exact call_int1 pins s σ H _ us Q I r (.inr ⟨b, rfl, hq _ _ H (Ex.refl H) (newF (.int _)) hg⟩)
def gMax2 : List D → (Dl.Slot → Prop) → Prop
  | [.int i, .int j], k => k (.fro (.int (max i j)))
  | _, _ => False
def gMin2 : List D → (Dl.Slot → Prop) → Prop
  | [.int i, .int j], k => k (.fro (.int (min i j)))
  | _, _ => False
theorem cd_max (hc : X.calm = true) : CallD X (.builtin "max") gMax2 := callD_of fun pins s σ H vs us Q A ds k I r sl ht hg hq => by
  match ds, hg, sl with
  | [.int i, .int j], hg, sl =>
    obtain ⟨v, u, rfl, sv, su⟩ := seesL2 sl
    cases sees_int sv
    cases sees_int su
    refine call_max2 hc pins s σ H _ us Q I r ⟨i, j, rfl, ?_⟩
    have e : (if j > i then j else i) = max i j := by by_cases h : j > i <;> simp only [h, if_true, if_false] <;> omega
    rw [e]
    exact hq _ _ H (Ex.refl H) (newF (.int _)) hg
theorem cd_min (hc : X.calm = true) : CallD X (.builtin "min") gMin2 := callD_of fun pins s σ H vs us Q A ds k I r sl ht hg hq => by
  match ds, hg, sl with
  | [.int i, .int j], hg, sl =>
    obtain ⟨v, u, rfl, sv, su⟩ := seesL2 sl
    cases sees_int sv
    cases sees_int su
    refine call_min2 hc pins s σ H _ us Q I r ⟨i, j, rfl, ?_⟩
    have e : (if j < i then j else i) = min i j := by by_cases h : j < i <;> simp only [h, if_true, if_false] <;> omega
    rw [e]
    exact hq _ _ H (Ex.refl H) (newF (.int _)) hg
def gTuple : List D → (Dl.Slot → Prop) → Prop
  | [.lst ds], k => k (.fro (.tup ds))
  | [.tup ds], k => k (.fro (.tup ds))
  | _, _ => False
def gList : List D → (Dl.Slot → Prop) → Prop
  | [.lst ds], k => k (.own false (.lst ds))
  | [.tup ds], k => k (.own false (.lst ds))
  | _, _ => False
theorem cd_tuple : CallD X (.type "tuple") gTuple := callD_of fun pins s σ H vs us Q A ds k I r sl ht hg hq => by
  match ds, hg, sl with
  | [.lst ds], hg, sl =>
    obtain ⟨v, rfl, p, xs, rfl, e, rl⟩ := seesL1 sl
    exact call_tuple_of pins s σ H _ us Q I r ⟨p, xs, rfl, .inl ⟨SqL.of e, fun q nq => hq _ _ _ (Ex.new nq) (new_tup nq rl) hg⟩⟩
  | [.tup ds], hg, sl =>
    obtain ⟨v, rfl, sv⟩ := seesL1 sl
    obtain ⟨p, xs, rfl, e, rl⟩ := sees_tup sv
    exact call_tuple_of pins s σ H _ us Q I r ⟨p, xs, rfl, .inr ⟨e, hq _ _ H (Ex.refl H) (newF (.tup e rl)) hg⟩⟩
end
end Dl
namespace Dl
open PySem PySem.Spec PyProof.Rows L2
variable [TabN]
section
variable {X : Cx}
def boolsOf : List D → Option (List Bool)
  | [] => some []
  | .bl b :: ds => (boolsOf ds).map (b :: ·)
  | _ => none
theorem bools_rep {K : PySem.W.Frag} {A : Addr → Prop} {H : Hp} : ∀ {vs : List V} {ds : List D} {bs : List Bool}, RepL K A H vs ds → boolsOf ds = some bs → vs = bs.map V.bl
  | _, [], _, .nil, e => by cases e; rfl
  | _, .bl b :: ds, bs, .cons (.bl _) r, e => by
    rw [boolsOf] at e
    cases q : boolsOf ds with
    | none => rw [q] at e; cases e
    | some cs => rw [q] at e; cases e; rw [List.map_cons, bools_rep r q]
theorem boolsOf_map {α : Type} (f : α → Bool) : ∀ l : List α, boolsOf (l.map fun x => D.bl (f x)) = some (l.map f)
  | [] => rfl
  | x :: l => by rw [List.map_cons, boolsOf, boolsOf_map f l]; rfl
def gAll : List D → (Dl.Slot → Prop) → Prop
  | [.lst ds], k => (match boolsOf ds with
    | some bs => k (.fro (.bl (bs.all id)))
    | none => False)
  | _, _ => False
def gAny : List D → (Dl.Slot → Prop) → Prop
  | [.lst ds], k => (match boolsOf ds with
    | some bs => k (.fro (.bl (bs.any id)))
    | none => False)
  | _, _ => False
theorem cd_all (hc : X.calm = true) : CallD X (.builtin "all") gAll := callD_of fun pins s σ H vs us Q A ds k I r sl ht hg hq => by
  match ds, hg, sl with
  | [.lst ds], hg, sl =>
    obtain ⟨v, rfl, p, xs, rfl, e, rl⟩ := seesL1 sl
    cases eb : boolsOf ds with
    | none => simp only [gAll, eb] at hg
    | some bs =>
      simp only [gAll, eb] at hg
      exact cr_all hc pins s σ H _ us Q I r ⟨p, bs, rfl, by rw [← bools_rep rl eb]; exact SqL.of e, hq _ _ H (Ex.refl H) (newF (.bl _)) hg⟩
theorem cd_any (hc : X.calm = true) : CallD X (.builtin "any") gAny := callD_of fun pins s σ H vs us Q A ds k I r sl ht hg hq => by
  match ds, hg, sl with
  | [.lst ds], hg, sl =>
    obtain ⟨v, rfl, p, xs, rfl, e, rl⟩ := seesL1 sl
    cases eb : boolsOf ds with
    | none => simp only [gAny, eb] at hg
    | some bs =>
      simp only [gAny, eb] at hg
      exact cr_any hc pins s σ H _ us Q I r ⟨p, bs, rfl, by rw [← bools_rep rl eb]; exact SqL.of e, hq _ _ H (Ex.refl H) (newF (.bl _)) hg⟩
def tyD : D → Option String
  | .non => some "NoneType"
  | .bl _ => some "bool"
  | .int _ => some "int"
  | .str _ => some "str"
  | .tup _ => some "tuple"
  | .lst _ => some "list"
  | .dct _ => some "dict"
  | _ => none
theorem sees_ty {K : PySem.W.Frag} {A : Addr → Prop} {H : Hp} {v : V} {d : D} {t : String} (h : Sees K A H v d) (e : tyD d = some t) : TyX K H v (.type t) := by
  match d, h, e with
  | .non, h, e => cases e; cases sees_non h; exact .base .non
  | .bl b, h, e => cases e; cases sees_bl h; exact .base (.bl b)
  | .int i, h, e => cases e; cases sees_int h; exact .base (.int i)
  | .str i, h, e => cases e; cases sees_str h; exact .base (.str i)
  | .tup ds, h, e =>
    cases e
    obtain ⟨a, xs, rfl, (q | ⟨o, q⟩) | ⟨o, _, _, q, c, _⟩, _⟩ := sees_tup h
    · exact .base (.tup q)
    · exact .fTuple q
    · exact .kTuple q c
  | .lst ds, ⟨a, xs, hv, q, _⟩, e => cases e; subst hv; exact .base (.lst q)
  | .dct ds, ⟨a, xs, hv, q, _⟩, e => cases e; subst hv; exact q.elim (fun q => .base (.dK q)) fun ⟨o, q⟩ => .fDict q
def isD (T : String) (d : D) : Option Bool := match tyD d with
  | some t => kitB t T
  | none => none
def gIsi : List D → (Dl.Slot → Prop) → Prop
  | [d, .raw (.ty T)], k => (match isD T d with
    | some b => k (.fro (.bl b))
    | none => False)
  | _, _ => False
theorem cd_isi : CallD X (.builtin "isinstance") gIsi := callD_of fun pins s σ H vs us Q A ds k I r sl ht hg hq => by
  match ds, hg, sl with
  | [d, .raw (.ty T)], hg, sl =>
    obtain ⟨v, u, rfl, sv, su⟩ := seesL2 sl
    have su' : RepV X.K A H u (.raw (.ty T)) := su
    cases su'
    unfold gIsi isD at hg
    cases et : tyD d with
    | none => simp only [et] at hg
    | some t =>
      simp only [et] at hg
      cases eb : kitB t T with
      | none => simp only [eb] at hg
      | some b =>
        simp only [eb] at hg
        exact call_isi pins s σ H _ us Q I r ⟨v, .ty T, .type t, .type T, b, rfl, .ty T, sees_ty sv et, kit_ty eb, hq _ _ H (Ex.refl H) (newF (.bl _)) hg⟩
theorem me_bltn {x : Str} {T : String} {pos : Pos} (hg : Gl X x) (hm : X.mg x = none) (hv : bootBuiltins x = some (.type T)) (hn : x ≠ "__name__" := by decide) (hd : (x == ("__debug__" : Str)) = false := by decide) : ME X (.Name x pos) (wC (.raw (.ty T))) :=
  me_c (pe_bltn hg hm hv (v := .ty T) rfl hn hd) fun _ _ => .raw _
theorem me_glob {x : Str} {v : V} {u : Value} {d : D} {pos : Pos} (hg : Gl X x) (hm : X.mg x = some u) (r : RelV v u) (hr : ∀ A H, RepV X.K A H v d) (hd : (x == ("__debug__" : Str)) = false := by decide) : ME X (.Name x pos) (wC d) := me_c (pe_glob hg hm r hd) hr
def pairD (p : Int × Int) : D := .tup [.int p.1, .int p.2]
def lexLe (p q : Int × Int) : Prop := p.1 < q.1 ∨ (p.1 = q.1 ∧ p.2 ≤ q.2)
def pairsOf : List D → Option (List (Int × Int))
  | [] => some []
  | .tup [.int a, .int b] :: ds => (pairsOf ds).map ((a, b) :: ·)
  | _ => none
theorem pairsOf_map : ∀ l : List (Int × Int), pairsOf (l.map pairD) = some l
  | [] => rfl
  | p :: l => by rw [List.map_cons, pairD, pairsOf, pairsOf_map l]; rfl
theorem pairsOf_eq : ∀ {ds : List D} {ps : List (Int × Int)}, pairsOf ds = some ps → ds = ps.map pairD := by
  intro ds
  induction ds using pairsOf.induct with
  | case1 => intro ps h; cases h; rfl
  | case2 a b ds ih =>
    intro ps h
    rw [pairsOf] at h
    cases q : pairsOf ds with
    | none => rw [q] at h; cases h
    | some cs => rw [q] at h; cases h; rw [ih q]; rfl
  | case3 ds h1 h2 => intro ps h; rw [pairsOf] at h <;> first | cases h | assumption
def gSortP : List D → (Dl.Slot → Prop) → Prop
  | [.lst ds], k => (match pairsOf ds with
    | some ps => ∀ qs : List (Int × Int), qs.Perm ps → qs.Pairwise lexLe → k (.own false (.lst (qs.map pairD)))
    | none => False)
  | [.tup ds], k => (match pairsOf ds with
    | some ps => ∀ qs : List (Int × Int), qs.Perm ps → qs.Pairwise lexLe → k (.own false (.lst (qs.map pairD)))
    | none => False)
  | _, _ => False
open Classical in
noncomputable def keyAt (h : Heap) (u : Value) : Int × Int := if q : ∃ p : Int × Int, Srt.IsPair h u p.1 p.2 then choose q else (0, 0)
theorem keyAt_of {h : Heap} {u : Value} {x y : Int} (p : Srt.IsPair h u x y) : keyAt h u = (x, y) := by
  have q : ∃ p : Int × Int, Srt.IsPair h u p.1 p.2 := ⟨(x, y), p⟩
  have e : keyAt h u = Classical.choose q := dif_pos q
  rw [e]
  obtain ⟨a, o, t, v, n, e1, e2, _, e4⟩ := Classical.choose_spec q
  obtain ⟨a', o', t', v', n', f1, f2, _, f4⟩ := p
  rw [e1] at f1; cases f1
  rw [e2] at f2; cases f2
  rw [e4] at f4
  injection f4 with g1 _
  have g2 := congrArg Array.toList g1
  simp only [List.cons.injEq, Value.int.injEq, and_true] at g2
  exact Prod.ext g2.1.1 g2.2.1
theorem lex_le {p q : Int × Int} (h : SrtO.lexB q p = false) : lexLe p q := by
  have := SrtO.lexB_no.mp h
  unfold lexLe
  omega
theorem pair_val {pins : List (Addr × Obj)} {σ : L2.St} {H : Hp} {s : Shared} {A : Addr → Prop} {v : V} {u : Value} {p : Int × Int} (I : Inv X pins σ H s) (r : RepV X.K A H v (pairD p)) (rv : RelV v u) : Srt.IsPair s.heap u p.1 p.2 ∧ v = backV u := by
  cases r with
  | tup hs rl =>
    obtain ⟨v1, v2, rfl, r1, r2⟩ := repL_one rl
    cases r1
    cases r2
    cases rv
    obtain ⟨its, vi, ⟨o, ho, hc, n, hd⟩, _⟩ := I.tuple hs
    obtain ⟨u1, u2, rfl, ⟨t1, rfl⟩, ⟨t2, rfl⟩⟩ := vals2 vi
    exact ⟨⟨_, o, t1, t2, n, rfl, ho, hc, hd⟩, rfl⟩
theorem pairs_vals {pins : List (Addr × Obj)} {σ : L2.St} {H : Hp} {s : Shared} {A : Addr → Prop} (I : Inv X pins σ H s) : ∀ {vs : List V} {us : List Value} {ps : List (Int × Int)}, RepL X.K A H vs (ps.map pairD) → Vals vs us →
    (∀ u ∈ us, Srt.IsPair s.heap u (keyAt s.heap u).1 (keyAt s.heap u).2 ∧ (∃ a, u = .ref a) ∧ RepV X.K A H (backV u) (pairD (keyAt s.heap u))) ∧ us.map (keyAt s.heap) = ps
  | _, _, [], .nil, .nil => ⟨fun u hu => (nomatch hu), rfl⟩
  | _, _, p :: ps, .cons r1 r2, .cons q1 q2 => by
    obtain ⟨h1, h2⟩ := pairs_vals I r2 q2
    obtain ⟨hp, hb⟩ := pair_val I r1 q1
    have e := keyAt_of hp
    refine ⟨fun u hu => ?_, by rw [List.map_cons, h2, e]⟩
    rcases List.mem_cons.mp hu with rfl | hu
    · rw [e]
      obtain ⟨a, _, _, _, _, e1, _⟩ := id hp
      exact ⟨hp, ⟨a, e1⟩, by rw [← hb]; exact r1⟩
    · exact h1 u hu
theorem rep_back {K : PySem.W.Frag} {A : Addr → Prop} {H : Hp} {f : Value → Int × Int} : ∀ {us : List Value}, (∀ u ∈ us, RepV K A H (backV u) (pairD (f u))) → RepL K A H (us.map backV) ((us.map f).map pairD)
  | [], _ => .nil
  | u :: us, h => .cons (h u (by simp)) (rep_back fun x hx => h x (List.mem_cons_of_mem _ hx))
theorem cd_sortP : CallD X (.builtin "sorted") gSortP := callD_of fun pins s σ H vs us Q A ds k I r sl ht hg hq => by
  have fin : ∀ {its : List Value} {ps : List (Int × Int)} {xs : List V}, RepL X.K A H xs (ps.map pairD) → Vals xs its → its.length ≤ sizeLine → (∀ qs : List (Int × Int), qs.Perm ps → qs.Pairwise lexLe → k (.own false (.lst (qs.map pairD)))) →
      ∀ (h' : Heap) (d : Addr) (out : List Value), SrtO.Srtd (fun v u => SrtO.lexB (keyAt s.heap v) (keyAt s.heap u)) out → SrtO.Stb (fun v u => SrtO.lexB (keyAt s.heap v) (keyAt s.heap u)) out its → (∀ b o, s.heap.get? b = some o → h'.get? b = some o) → s.heap.objs.size ≤ d →
        (∃ n, h'.get? d = some (seqObj "list" out.toArray n)) → EP X pins σ Q (.ref d) { s with heap := h' } := fun {its ps xs} rl rv hz hk h' d out h1 h2 kp hd hn => by
    obtain ⟨n, hn⟩ := hn
    obtain ⟨a1, a2⟩ := pairs_vals I rl rv
    have mem : ∀ u ∈ out, u ∈ its := fun u hu => h2.perm.mem_iff.mp hu
    have nd : H d = none := I.hok.fresh hd
    refine ⟨.ref d, L2.upd H d (.lst (out.map backV)), I.laid (t' := s.toks) kp hd ⟨by rw [List.length_map, h2.len]; exact hz, out, n, vals_back fun u hu => (a1 u (mem u hu)).2.1, hn⟩, rfl, ?_⟩
    refine hq _ _ _ (Ex.new nd) (new_lst (b := false) nd (rep_back fun u hu => (a1 u (mem u hu)).2.2)) (hk _ ?_ ?_)
    · rw [← a2]; exact h2.perm.map _
    · exact List.pairwise_map.mpr (h1.imp fun h => lex_le h)
  match ds, hg, sl with
  | [.lst ds], hg, sl =>
    obtain ⟨v, rfl, p, xs, rfl, e, rl⟩ := seesL1 sl
    cases ep : pairsOf ds with
    | none => simp only [gSortP, ep] at hg
    | some ps =>
      simp only [gSortP, ep] at hg
      rw [pairsOf_eq ep] at rl
      obtain ⟨its, rv, hl, hz⟩ := I.list (SqL.of e)
      obtain ⟨u, rfl, ru⟩ := vals1 r
      obtain rfl : u = Value.ref p := ru
      have hz' : its.length ≤ sizeLine := by rw [← rv.length]; exact hz
      exact SrtO.sorted_pairsO (k := keyAt s.heap) hl.isList hz' (fun v hv => ((pairs_vals I rl rv).1 v hv).1) (fin rl rv hz' hg)
  | [.tup ds], hg, sl =>
    obtain ⟨v, rfl, sv⟩ := seesL1 sl
    obtain ⟨p, xs, rfl, e, rl⟩ := sees_tup sv
    cases ep : pairsOf ds with
    | none => simp only [gSortP, ep] at hg
    | some ps =>
      simp only [gSortP, ep] at hg
      rw [pairsOf_eq ep] at rl
      obtain ⟨its, rv, hl, hz⟩ := I.tuple e
      obtain ⟨u, rfl, ru⟩ := vals1 r
      obtain rfl : u = Value.ref p := ru
      have hz' : its.length ≤ sizeLine := by rw [← rv.length]; exact hz
      exact sortedT (k := keyAt s.heap) hl hz' (fun v hv => ((pairs_vals I rl rv).1 v hv).1) (fin rl rv hz' hg)
end
end Dl
namespace Dl
open PySem L2
variable [TabN]
theorem Yld.ex {K : PySem.W.Frag} {A A' : Addr → Prop} {H H' : Hp} {J : It} {ds : List D} (y : Yld K A H J ds) (e : Ex H H') (ha : ∀ a, A' a → A a ∨ H a = none) : Yld K A' H' J ds := fun A2 H2 k h1 h2 i =>
  y A2 H2 ⟨fun a o q n t => k.keep a o (e a o q) (fun z => (ha a z).elim n fun z => (by rw [z] at q; cases q)) t, fun a o q im => k.imm a o (e a o q) im⟩
    (fun a z => (h1 a z).elim (ha a) fun z => .inr (e.back z)) h2 i
theorem Kp.wide {S T : Addr → Prop} {H H' : Hp} (k : Kp S H H') (h : ∀ a, S a → T a) : Kp T H H' := k.mono h
section
variable {X : Cx} {elt tg iter tg1 iter1 : Expr} {ifs ifs1 : List Expr} {scope : Scope} {own : List (Str × Nat)} {pos : Pos} {wi wi1 : WI} {g g1 : WG} {js js1 vs1 : List Nat} {t t1 : WT} {e : WE}
end
end Dl
namespace Dl
open PySem L2
variable [TabN]
structure Callee (P : Program) (w : World) (K : PySem.W.Frag) (mg : Str → Option Value) (base : Heap) (k : Nat) (x : Str) (ps : List Str) (C : WE) : Prop where
  ex : ∃ (f : Addr) (fd : FuncData), FnG P w K mg base CX0 k f fd ps (spOf K ps.length C) ∧ mg x = some (.ref f) ∧ PySem.W.keepIn K (.ref f) = true ∧ Binds K fd ps []
section
variable {X : Cx} {k : Nat} {x : Str} {ps : List Str} {C : WE} {p pos : Pos} {e : Expr} {es : List Expr} {w : WE} {ws : List WE} {i : Nat}
theorem Callee.call (c : Callee X.prog X.w X.K X.mg X.base k x ps C) (hr : Room k X.A) (hgu : X.A.guards = some []) (hg : Gl X x) (ha : MA X (e :: es) ws) (hn : ws.length = ps.length := by rfl) (hdb : (x == ("__debug__" : Str)) = false := by decide)
    (he : starEach (e :: es) X.env = (false, eval e X.env) :: starEach es X.env := by rfl) (hpl : (backTo pos (starEach es X.env)).any (·.1) = false := by rfl) : ME X (.Call (.Name x p) (e :: es) [] pos) (wCall C ws) := by
  obtain ⟨f, fd, F, hm, hk, hb⟩ := c.ex
  exact me_call (E := E0) F hr hgu hg hm hk hb (fun _ _ _ _ _ _ _ h => h.elim) ha hn hdb he hpl
theorem Callee.callP (c : Callee X.prog X.w X.K X.mg X.base k x ps C) (hr : Room k X.A) (hgu : X.A.guards = some []) (hg : Gl X x) (h0 : PE X e (tVar i)) (ha : MA X es ws) (hn : ws.length + 1 = ps.length := by rfl) (hdb : (x == ("__debug__" : Str)) = false := by decide)
    (he : starEach (e :: es) X.env = (false, eval e X.env) :: starEach es X.env := by rfl) (hpl : (backTo pos (starEach es X.env)).any (·.1) = false := by rfl) : ME X (.Call (.Name x p) (e :: es) [] pos) (wCallP C i ws) := by
  obtain ⟨f, fd, F, hm, hk, hb⟩ := c.ex
  exact me_callP (E := E0) F hr hgu hg hm hk hb (fun _ _ _ _ _ _ _ h => h.elim) h0 ha hn hdb he hpl
theorem Callee.callN (c : Callee X.prog X.w X.K X.mg X.base k x ps C) (hr : Room k X.A) (hgu : X.A.guards = some []) (hg : Gl X x) (h0 : ME X e w) (hn : 1 = ps.length := by rfl) (hdb : (x == ("__debug__" : Str)) = false := by decide)
    (he : starEach [e] X.env = (false, eval e X.env) :: starEach [] X.env := by rfl) (hpl : (backTo pos (starEach [] X.env)).any (·.1) = false := by rfl) : ME X (.Call (.Name x p) [e] [] pos) (wCallN C w) := by
  obtain ⟨f, fd, F, hm, hk, hb⟩ := c.ex
  rw [← hn] at F
  exact me_callN (E := E0) F hr hgu hg hm hk hb (fun _ _ _ _ _ _ _ h => h.elim) h0 hdb he hpl
end
structure GlobD (K : PySem.W.Frag) (mg : Str → Option Value) (x : Str) (d : D) : Prop where
  ex : ∃ (u : Value) (v : V), mg x = some u ∧ RelV v u ∧ ∀ A H, RepV K A H v d
theorem GlobD.me {X : Cx} {x : Str} {d : D} {pos : Pos} (g : GlobD X.K X.mg x d) (hg : Gl X x) (hd : (x == ("__debug__" : Str)) = false := by decide) : ME X (.Name x pos) (wC d) := by
  obtain ⟨u, v, hm, r, hr⟩ := g.ex
  exact me_glob hg hm r hr hd
theorem GlobD.int {K : PySem.W.Frag} {mg : Str → Option Value} {x : Str} {i : Int} {t : Tok} (h : mg x = some (.int i t)) : GlobD K mg x (.int i) := ⟨_, .int i, h, ⟨t, rfl⟩, fun _ _ => .int i⟩
theorem repK_tup {K : PySem.W.Frag} {A : Addr → Prop} {H : Hp} {a : Addr} {d : Option Addr} {us : List Value} {n : Nat} {sl : Array (Option Value)} {vs : List V} {ds : List D} (h : K.lookup a = some ⟨.type "tuple", d, .seq us.toArray n, sl⟩) (hv : Vals vs us) (hz : us.length ≤ sizeLine) (r : RepL K A H vs ds) : RepV K A H (.ref a) (.tup ds) :=
  .tup (.inr ⟨_, us.toArray, n, h, rfl, rfl, by simpa using hz, by simpa using hv⟩) r
end Dl
namespace Dl
open PySem L2
variable [TabN]
mutual
inductive RdN (h : Heap) : Value → PyData → Prop
  | non : RdN h .none .none
  | bl (b : Bool) : RdN h (.bool b) (.bool b)
  | int (i : Int) (t : Tok) : i.natAbs.log2 < 1920 → RdN h (.int i t) (.int i)
  | str (x : Str) (t : Tok) : (reprText x).length ≤ sizeLine → RdN h (.str x t) (.str x)
  | lst {a : Addr} {o : Obj} {vs : Array Value} {n : Nat} {xs : List PyData} : h.get? a = some o → o.cls = .type "list" → o.data = .seq vs n → RdNs h vs.toList xs → RdN h (.ref a) (.list xs)
  | tup {a : Addr} {o : Obj} {vs : Array Value} {n : Nat} {xs : List PyData} : h.get? a = some o → o.cls = .type "tuple" → o.data = .seq vs n → RdNs h vs.toList xs → RdN h (.ref a) (.tuple xs)
  | dct {a : Addr} {o : Obj} {es : Array DictEntry} {n : Nat} {kvs : List (PyData × PyData)} : (a == sysModules) = false → h.get? a = some o → o.cls = .type "dict" → o.data = .dict es n → RdNs h (es.toList.map (·.key)) (kvs.map (·.1)) →
      RdNs h (es.toList.map (·.val)) (kvs.map (·.2)) → RdN h (.ref a) (.dict kvs)
inductive RdNs (h : Heap) : List Value → List PyData → Prop
  | nil : RdNs h [] []
  | cons {v : Value} {vs : List Value} {d : PyData} {ds : List PyData} : RdN h v d → RdNs h vs ds → RdNs h (v :: vs) (d :: ds)
end
structure Tells (P : Program) (w : World) (h : Heap) (v : Value) (d : PyData) : Prop where
  rd : ∃ as, Reads h v d as
  sh : ∃ bs, ReadAtMost h d.depth bs ∧ ReprK P w bs h d.depth v d.shown
structure TellsAll (P : Program) (w : World) (h : Heap) (vs : List Value) (ds : List PyData) : Prop where
  rd : ∃ as, ReadsAll h vs ds as
  sh : ∃ bs, ReadAtMost h (PyData.depthAll ds) bs ∧ ReprAllK P w bs h (PyData.depthAll ds) vs (PyData.shownAll ds)
section
variable {P : Program} {w : World} {h : Heap}
theorem Tells.leaf {v : Value} {d : PyData} {as : List Addr} (r : Reads h v d as) (e : ReprIs P w v d.shown) : Tells P w h v d := ⟨⟨_, r⟩, [], fun _ z => (nomatch z), .of_is e _ _ _⟩
theorem tells_list {a : Addr} {o : Obj} {vs : Array Value} {n : Nat} {xs : List PyData} (h1 : h.get? a = some o) (h2 : o.cls = .type "list") (h3 : o.data = .seq vs n) (T : TellsAll P w h vs.toList xs) : Tells P w h (.ref a) (.list xs) := by
  obtain ⟨⟨as, r4⟩, bs, hb, hk⟩ := T
  have r : Reads h (.ref a) (.list xs) (a :: as) := .list h1 h2 h3 r4
  have dp : (PyData.list xs).depth = PyData.depthAll xs + 1 := rfl
  have na : a ∉ bs := not_mem_of_deeper r (Nat.lt_of_lt_of_eq (Nat.lt_succ_self _) dp.symm) hb
  refine ⟨⟨_, r⟩, a :: bs, ReadAtMost.cons r (Nat.le_of_lt (Nat.lt_of_lt_of_eq (Nat.lt_succ_self _) dp.symm)) hb, ?_⟩
  show ReprK P w (a :: bs) h (PyData.depthAll xs + 1) (.ref a) (listText (PyData.shownAll xs))
  match vs, h3, r4, hk with
  | ⟨[]⟩, h3, r4, hk =>
    have r5 : ReadsAll h [] xs as := r4
    cases r5
    have e : listText (PyData.shownAll []) = ("[]" : Str) := listText_nil
    rw [e]
    exact ReprK.listEmpty h1 h2 h3
  | ⟨x :: l⟩, h3, r4, hk => exact ReprK.list h1 h2 h3 na (by have := hk.length_eq; simpa using this) fun i y e => hk.item i y (by simpa using e)
theorem tells_tup {a : Addr} {o : Obj} {vs : Array Value} {n : Nat} {xs : List PyData} (h1 : h.get? a = some o) (h2 : o.cls = .type "tuple") (h3 : o.data = .seq vs n) (T : TellsAll P w h vs.toList xs) : Tells P w h (.ref a) (.tuple xs) := by
  obtain ⟨⟨as, r4⟩, bs, hb, hk⟩ := T
  have r : Reads h (.ref a) (.tuple xs) as := .tuple h1 h2 h3 r4
  have dp : (PyData.tuple xs).depth = PyData.depthAll xs + 1 := rfl
  have na : a ∉ bs := not_mem_of_deeper r (Nat.lt_of_lt_of_eq (Nat.lt_succ_self _) dp.symm) hb
  exact ⟨⟨_, r⟩, a :: bs, ReadAtMost.cons r (Nat.le_of_lt (Nat.lt_of_lt_of_eq (Nat.lt_succ_self _) dp.symm)) hb, ReprK.tuple h1 h2 h3 na hk⟩
theorem entries {es : Array DictEntry} {kvs : List (PyData × PyData)} {b1 b2 : List Addr} (k1 : ReprAllK P w b1 h (PyData.depthAll (kvs.map (·.1))) (es.toList.map (·.key)) (PyData.shownAll (kvs.map (·.1))))
    (k2 : ReprAllK P w b2 h (PyData.depthAll (kvs.map (·.2))) (es.toList.map (·.val)) (PyData.shownAll (kvs.map (·.2)))) : ReprEntriesK P w (b1 ++ b2) h (PyData.depthKv kvs) es.toList (PyData.shownKv kvs) := by
  rw [PyData.shownKv_eq]
  exact ReprEntriesK.of_two _ _ _ (k1.more_le (fun b z => List.mem_append_left _ z) (PyData.depthAll_keys_le kvs)) (k2.more_le (fun b z => List.mem_append_right _ z) (PyData.depthAll_vals_le kvs))
theorem dict_parts {a : Addr} {o : Obj} {es : Array DictEntry} {n : Nat} {kvs : List (PyData × PyData)} (h1 : h.get? a = some o) (h2 : o.cls = .type "dict") (h3 : o.data = .dict es n) (T1 : TellsAll P w h (es.toList.map (·.key)) (kvs.map (·.1)))
    (T2 : TellsAll P w h (es.toList.map (·.val)) (kvs.map (·.2))) : ∃ (as bs : List Addr), Reads h (.ref a) (.dict kvs) as ∧ ReadAtMost h (PyData.depthKv kvs) bs ∧ a ∉ bs ∧ ReprEntriesK P w bs h (PyData.depthKv kvs) es.toList (PyData.shownKv kvs) := by
  obtain ⟨⟨a1, r1⟩, b1, hb1, k1⟩ := T1
  obtain ⟨⟨a2, r2⟩, b2, hb2, k2⟩ := T2
  have r : Reads h (.ref a) (.dict kvs) (a :: a1 ++ a2) := .dict h1 h2 h3 r1 r2
  have hb : ReadAtMost h (PyData.depthKv kvs) (b1 ++ b2) := (hb1.mono (PyData.depthAll_keys_le kvs)).append (hb2.mono (PyData.depthAll_vals_le kvs))
  have dp : (PyData.dict kvs).depth = PyData.depthKv kvs + 1 := rfl
  exact ⟨_, b1 ++ b2, r, hb, not_mem_of_deeper r (Nat.lt_of_lt_of_eq (Nat.lt_succ_self _) dp.symm) hb, entries k1 k2⟩
mutual
theorem RdN.tells : ∀ {v : Value} {d : PyData}, RdN h v d → Tells P w h v d
  | _, _, .non => .leaf .none ReprIs.none
  | _, _, .bl b => .leaf (.bool b) (ReprIs.bool b)
  | _, _, .int i t e => .leaf (.int i t) (ReprIs.int t e)
  | _, _, .str x t e => .leaf (.str x t) (ReprIs.str x t e)
  | _, _, .lst h1 h2 h3 h4 => tells_list h1 h2 h3 (RdNs.tells h4)
  | _, _, .tup h1 h2 h3 h4 => tells_tup h1 h2 h3 (RdNs.tells h4)
  | _, _, .dct hs h1 h2 h3 h4 h5 => by
    obtain ⟨as, bs, r, hb, na, en⟩ := dict_parts (P := P) (w := w) h1 h2 h3 (RdNs.tells h4) (RdNs.tells h5)
    exact ⟨⟨_, r⟩, _, ReadAtMost.cons r (Nat.le_succ _) hb, ReprK.dict h1 h2 h3 hs na en⟩
theorem RdNs.tells : ∀ {vs : List Value} {ds : List PyData}, RdNs h vs ds → TellsAll P w h vs ds
  | _, _, .nil => ⟨⟨_, .nil⟩, [], fun _ z => (nomatch z), .nil⟩
  | _, _, .cons (d := d) (ds := ds) q qs => by
    obtain ⟨⟨a1, r1⟩, b1, hb1, k1⟩ : Tells P w h _ d := RdN.tells q
    obtain ⟨⟨a2, r2⟩, b2, hb2, k2⟩ : TellsAll P w h _ ds := RdNs.tells qs
    have l1 : d.depth ≤ PyData.depthAll (d :: ds) := Nat.le_max_left _ _
    have l2 : PyData.depthAll ds ≤ PyData.depthAll (d :: ds) := Nat.le_max_right _ _
    exact ⟨⟨_, .cons r1 r2⟩, b1 ++ b2, (hb1.mono l1).append (hb2.mono l2), .cons ((k1.more fun b z => List.mem_append_left _ z).level_le l1) (k2.more_le (fun b z => List.mem_append_right _ z) l2)⟩
end
theorem RdN.repr {A : Around} {E : Value → Shared → Prop} {s : Shared} {Q : Value → Shared → Prop} {v : Value} {d : PyData} (q : RdN s.heap v d) (hg : A.guards = some []) (hu : A.units + (d.depth + 1) < cLine) (hz : d.shown.length ≤ sizeLine)
    (hQ : ∀ h' t tk, (∀ b o, s.heap.get? b = some o → h'.get? b = some o) → Q (.str d.shown t) { s with heap := h', toks := tk }) : wpAny (model P w) A (call (.builtin "repr") [v]) Q E s := by
  have hQ' : ∀ h' t tk, (∀ b o, s.heap.get? b = some o → h'.get? b = some o) → ∃ x u, Value.str d.shown t = .str x u ∧ Q (.str d.shown t) { s with heap := h', toks := tk } := fun h' t tk k => ⟨_, _, rfl, hQ h' t tk k⟩
  cases q with
  | non => exact PySem.P.repr_of_none (hQ s.heap _ _ fun _ _ e => e)
  | bl b => exact PySem.P.repr_of_bool (hQ s.heap _ _ fun _ _ e => e)
  | int i t e => exact PySem.P.repr_of_int e (hQ s.heap _ _ fun _ _ e => e)
  | str x t e => exact PySem.P.repr_of_str (hQ s.heap _ _ fun _ _ e => e) e
  | @lst a o vs n xs h1 h2 h3 h4 =>
    obtain ⟨⟨as, r4⟩, bs, hb, hk⟩ := RdNs.tells (P := P) (w := w) h4
    have r : Reads s.heap (.ref a) (.list xs) (a :: as) := .list h1 h2 h3 r4
    have na : a ∉ bs := not_mem_of_deeper r (Nat.lt_succ_self _) hb
    have hu' : A.units + (PyData.depthAll xs + 1 + 1) < cLine := hu
    have hu2 : A.in1.units + (PyData.depthAll xs + 1) < cLine := show A.units + 1 + (PyData.depthAll xs + 1) < cLine by omega
    refine call_repr_slot (by omega) ⟨o, h1, h2⟩ F.slot_list_repr.toG ?_
    match vs, h3, r4, hk with
    | ⟨[]⟩, h3, r4, hk =>
      have r5 : ReadsAll s.heap [] xs as := r4
      cases r5
      have e : PyData.shown (.list []) = ("[]" : Str) := listText_nil
      rw [e] at hQ'
      exact call_list_repr_empty ⟨o, h1, h2⟩ h1 h3 (hQ' s.heap _ _ fun _ _ e => e)
    | ⟨x :: l⟩, h3, r4, hk => exact call_list_reprK h1 h2 h3 na (by have := hk.length_eq; simpa using this) (fun i y e => hk.item i y (by simpa using e)) hg (fun b _ => Clear.nil b) hu2 (fun _ _ e => e) hQ' hz
  | @tup a o vs n xs h1 h2 h3 h4 =>
    obtain ⟨⟨as, r4⟩, bs, hb, hk⟩ := RdNs.tells (P := P) (w := w) h4
    have r : Reads s.heap (.ref a) (.tuple xs) as := .tuple h1 h2 h3 r4
    have na : a ∉ bs := not_mem_of_deeper r (Nat.lt_succ_self _) hb
    have hu' : A.units + (PyData.depthAll xs + 1 + 1) < cLine := hu
    exact call_repr_slot (by omega) ⟨o, h1, h2⟩ F.slot_tuple_repr (call_tuple_reprK h1 h2 h3 na hk hg (fun b _ => Clear.nil b) (show A.units + 1 + (PyData.depthAll xs + 1) < cLine by omega) (fun _ _ e => e) hQ' hz)
  | @dct a o es n kvs hs h1 h2 h3 h4 h5 =>
    obtain ⟨as, bs, r, hb, na, en⟩ := dict_parts (P := P) (w := w) h1 h2 h3 (RdNs.tells h4) (RdNs.tells h5)
    have hu' : A.units + (PyData.depthKv kvs + 1 + 1) < cLine := hu
    exact call_repr_slot (by omega) ⟨o, h1, h2⟩ F.slot_dict_repr (call_dict_reprK h1 h2 h3 hs na en hg (fun b _ => Clear.nil b) (show A.units + 1 + (PyData.depthKv kvs + 1) < cLine by omega) (fun _ _ e => e) hQ' hz)
end
end Dl
namespace Dl
open PySem L2
variable [TabN]
def keyP : Key → PyData
  | .inl i => .int i
  | .inr x => .str x
theorem pyK_keys : ∀ kvs : List (Key × D), (pyK kvs).map (·.1) = kvs.map fun p => keyP p.1
  | [] => rfl
  | (k, d) :: r => by
    show _ :: (pyK r).map (·.1) = _ :: r.map fun p => keyP p.1
    rw [pyK_keys r]
    cases k <;> rfl
theorem pyK_vals : ∀ kvs : List (Key × D), (pyK kvs).map (·.2) = pyL (kvs.map (·.2))
  | [] => rfl
  | (k, d) :: r => by
    show pyD d :: (pyK r).map (·.2) = pyD d :: pyL (r.map (·.2))
    rw [pyK_vals r]
def keyFine : Key → Bool
  | .inl i => decide (i.natAbs < 2 ^ 250)
  | .inr x => x.cps.toList.all fun c => decide (c < 16 ^ 8)
mutual
/-- data whose text can be told -/
def showD : D → Bool
  | .tup ds => showL ds
  | .lst ds => showL ds
  | .dct kvs => showK kvs
  | .raw _ => false
  | .arg _ => false
  | .tix _ => false
  | .obj _ _ => false
  | .exc _ _ _ => false
  | .fn _ _ _ _ _ => false
  | .int i => decide (i.natAbs < 2 ^ 250)
  | .str x => x.cps.toList.all fun c => decide (c < 16 ^ 8)
  | _ => true
def showL : List D → Bool
  | [] => true
  | d :: ds => showD d && showL ds
def showK : List (Key × D) → Bool
  | [] => true
  | (k, d) :: r => keyFine k && (showD d && showK r)
end
theorem int_log {i : Int} (h : i.natAbs < 2 ^ 250) : i.natAbs.log2 < 1920 := by
  by_cases h0 : i.natAbs = 0
  · rw [h0]; decide
  · exact Nat.lt_of_lt_of_le ((Nat.log2_lt h0).mpr h) (by decide)
def ndKey : Key → Nat
  | .inl _ => 1
  | .inr x => 1 + x.cps.size
mutual
/-- how many parts -/
def ndD : D → Nat
  | .str x => 1 + x.cps.size
  | .tup ds => 1 + ndL ds
  | .lst ds => 1 + ndL ds
  | .dct kvs => 1 + ndK kvs
  | _ => 1
def ndL : List D → Nat
  | [] => 0
  | d :: ds => ndD d + ndL ds
def ndK : List (Key × D) → Nat
  | [] => 0
  | (k, d) :: r => ndKey k + ndD d + ndK r
end
theorem int_len {i : Int} (h : i.natAbs < 2 ^ 250) : (PyData.shown (.int i)).length ≤ 252 := by
  have e : PyData.shown (.int i) = Str.ofString (toString i) := rfl
  have l : i.natAbs.log2 < 251 := by
    by_cases h0 : i.natAbs = 0
    · rw [h0]; decide
    · exact Nat.lt_of_lt_of_le ((Nat.log2_lt h0).mpr h) (by decide)
  have := int_text_length_le (k := 251) (by decide) l
  rw [e, ofString_length]
  omega
theorem str_len {x : Str} (h : (x.cps.toList.all fun c => decide (c < 16 ^ 8)) = true) : (PyData.shown (.str x)).length ≤ 10 * x.cps.size + 2 :=
  PySem.StrLaws.reprText_len x fun c hc => of_decide_eq_true (List.all_eq_true.mp h c hc)
theorem key_len {k : Key} (h : keyFine k = true) : (keyP k).shown.length + 2 ≤ 300 * ndKey k := by
  cases k with
  | inl i =>
    have := int_len (of_decide_eq_true h)
    show (PyData.shown (.int i)).length + 2 ≤ 300 * 1
    omega
  | inr x =>
    have := str_len (x := x) h
    show (PyData.shown (.str x)).length + 2 ≤ 300 * (1 + x.cps.size)
    omega
mutual
theorem shown_nd : ∀ {d : D}, showD d = true → (pyD d).shown.length + 2 ≤ 300 * ndD d
  | .non, _ => by show 4 + 2 ≤ 300 * 1; decide
  | .bl b, _ => by cases b <;> (show _ ≤ 300 * 1; decide)
  | .int i, h => by
    have := int_len (of_decide_eq_true h)
    show (PyData.shown (.int i)).length + 2 ≤ 300 * 1
    omega
  | .str x, h => by
    have := str_len (x := x) h
    show (PyData.shown (.str x)).length + 2 ≤ 300 * (1 + x.cps.size)
    omega
  | .tup ds, h => by
    have h1 := shown_ndL (ds := ds) (by simpa [showD] using h)
    have h2 := tupleText_len_le (PyData.shownAll (pyL ds))
    show (tupleText (PyData.shownAll (pyL ds))).length + 2 ≤ 300 * (1 + ndL ds)
    omega
  | .lst ds, h => by
    have h1 := shown_ndL (ds := ds) (by simpa [showD] using h)
    have h2 := listText_len_le (PyData.shownAll (pyL ds))
    show (listText (PyData.shownAll (pyL ds))).length + 2 ≤ 300 * (1 + ndL ds)
    omega
  | .dct kds, h => by
    have h1 := shown_ndK (kds := kds) (by simpa [showD] using h)
    have h2 := dictText_len_le (PyData.shownKv (pyK kds))
    show (dictText (PyData.shownKv (pyK kds))).length + 2 ≤ 300 * (1 + ndK kds)
    omega
theorem shown_ndL : ∀ {ds : List D}, showL ds = true → ((PyData.shownAll (pyL ds)).map (·.length)).sum + 2 * (PyData.shownAll (pyL ds)).length ≤ 300 * ndL ds
  | [], _ => by decide
  | d :: ds, h => by
    unfold showL at h
    rw [Bool.and_eq_true] at h
    have h1 := shown_nd h.1
    have h2 := shown_ndL h.2
    show ((pyD d).shown.length + ((PyData.shownAll (pyL ds)).map (·.length)).sum) + 2 * ((PyData.shownAll (pyL ds)).length + 1) ≤ 300 * (ndD d + ndL ds)
    omega
theorem shown_ndK : ∀ {kds : List (Key × D)}, showK kds = true → ((PyData.shownKv (pyK kds)).map (·.length)).sum + 2 * (PyData.shownKv (pyK kds)).length ≤ 300 * ndK kds
  | [], _ => by decide
  | (k, d) :: r, h => by
    unfold showK at h
    rw [Bool.and_eq_true, Bool.and_eq_true] at h
    have h0 := key_len h.1
    have h1 := shown_nd h.2.1
    have h2 := shown_ndK h.2.2
    have ek : pyK ((k, d) :: r) = (keyP k, pyD d) :: pyK r := by cases k <;> rfl
    have e2 : ((keyP k).shown ++ ": " ++ (pyD d).shown).length = (keyP k).shown.length + 2 + (pyD d).shown.length := by
      rw [PySem.strLen_append, PySem.strLen_append]; rfl
    rw [ek]
    show (((keyP k).shown ++ ": " ++ (pyD d).shown).length + ((PyData.shownKv (pyK r)).map (·.length)).sum) + 2 * ((PyData.shownKv (pyK r)).length + 1) ≤ 300 * (ndKey k + ndD d + ndK r)
    omega
end
theorem reprText_fits {x : Str} (h : (x.cps.toList.all fun c => decide (c < 16 ^ 8)) = true) (hl : x.cps.size ≤ 1000000) : (reprText x).length ≤ sizeLine := by
  have := str_len (x := x) h
  have e : (PyData.shown (.str x)) = reprText x := rfl
  rw [e] at this
  rw [PySem.sizeLine_eq]
  omega
def reprOk (d : D) : Prop := showD d = true ∧ ndD d ≤ 50000 ∧ (pyD d).depth ≤ 60
theorem reprOk.fits {d : D} (h : reprOk d) : (pyD d).shown.length ≤ sizeLine := by
  have := shown_nd h.1
  have h2 := h.2.1
  rw [PySem.sizeLine_eq]
  omega
section
variable {X : Cx} {pins : List (Addr × Obj)} {σ : L2.St} {H : Hp} {s : Shared} {A : Addr → Prop}
theorem key_rdn {h : Heap} {k : Key} {v : Value} (e : keyIs k v = true) (f : keyFine k = true) (n : ndKey k ≤ 50000) : RdN h v (keyP k) := by
  rcases keyIs_shape e with ⟨i, t, rfl, rfl⟩ | ⟨x, t, rfl, rfl⟩
  · exact .int i t (int_log (of_decide_eq_true f))
  · exact .str x t (reprText_fits f (by have : 1 + x.cps.size ≤ 50000 := n; omega))
set_option maxHeartbeats 2000000 in
mutual
theorem RepV.rdn (I : Inv X pins σ H s) : ∀ {d : D} {v : V} {u : Value}, showD d = true → ndD d ≤ 50000 → RepV X.K A H v d → RelV v u → RdN s.heap u (pyD d)
  | .non, _, _, _, _, .non, r => by cases r; exact .non
  | .bl b, _, _, _, _, .bl _, r => by cases r; exact .bl b
  | .int i, _, _, h, _, .int _, r => by obtain ⟨t, rfl⟩ := r; exact .int i t (int_log (of_decide_eq_true h))
  | .str x, _, _, h, n, .str _, r => by obtain ⟨t, rfl⟩ := r; exact .str x t (reprText_fits h (by have : 1 + x.cps.size ≤ 50000 := n; omega))
  | .tup ds, _, _, h, n, .tup hs q, r => by
    cases r
    obtain ⟨its, rv, ⟨o, ho, hc, m, hd⟩, _⟩ := I.tuple hs
    exact .tup ho hc hd (RepL.rdn I (by simpa [showD] using h) (by have : 1 + ndL ds ≤ 50000 := n; omega) q rv)
  | .lst ds, _, _, h, n, .lst hs _ q, r => by
    cases r
    obtain ⟨its, rv, ⟨o, m, ho, hc, _, hd⟩, _⟩ := I.list (SqL.of hs)
    exact .lst ho hc hd (RepL.rdn I (by simpa [showD] using h) (by have : 1 + ndL ds ≤ 50000 := n; omega) q rv)
  | .dct kds, _, _, h, n, .dct hs _ q, r => by
    cases r
    obtain ⟨z, hd, vs, rel, o, es, ep, ho, hx, hdt, hko, hp, nd⟩ := dk_rd I.hok hs
    obtain ⟨h1, h2⟩ := RepK.rdn I (by simpa [showD] using h) (by have : 1 + ndK kds ≤ 50000 := n; omega) q rel hp
    exact .dct hd ho hx.1 hdt (kvs := pyK kds) (by rw [pyK_keys]; exact h1) (by rw [pyK_vals]; exact h2)
theorem RepL.rdn (I : Inv X pins σ H s) : ∀ {ds : List D} {vs : List V} {us : List Value}, showL ds = true → ndL ds ≤ 50000 → RepL X.K A H vs ds → Vals vs us → RdNs s.heap us (pyL ds)
  | [], _, _, _, _, .nil, r => by cases r; exact .nil
  | d :: ds, _, _, h, n, .cons q1 q2, r => by
    have h' : showD d = true ∧ showL ds = true := by simpa [showL] using h
    have n' : ndD d + ndL ds ≤ 50000 := n
    cases r with
    | cons r1 r2 => exact .cons (RepV.rdn I h'.1 (by omega) q1 r1) (RepL.rdn I h'.2 (by omega) q2 r2)
theorem RepK.rdn (I : Inv X pins σ H s) : ∀ {kds : List (Key × D)} {kvs : List (Key × V)} {vs : List (Key × Value)} {es : List DictEntry}, showK kds = true → ndK kds ≤ 50000 → RepK X.K A H kvs kds → KV kvs vs → PySem.Pairs (mixKind X.prog X.w) es vs →
    RdNs s.heap (es.map (·.key)) (kds.map fun p => keyP p.1) ∧ RdNs s.heap (es.map (·.val)) (pyL (kds.map (·.2)))
  | [], _, _, _, _, _, .nil, r, p => by
    cases r
    cases p
    exact ⟨.nil, .nil⟩
  | (k, d) :: kds, _, _, _, h, n, .cons q1 q2, r, p => by
    unfold showK at h
    rw [Bool.and_eq_true, Bool.and_eq_true] at h
    have n' : ndKey k + ndD d + ndK kds ≤ 50000 := n
    cases r with
    | cons r1 r2 =>
      cases p with
      | cons p1 p2 p3 =>
        obtain ⟨w2, w3⟩ := RepK.rdn I h.2.2 (by omega) q2 r2 p3
        rw [← r1.1] at p1
        exact ⟨.cons (key_rdn p1 h.1 (show ndKey k ≤ 50000 by omega)) w2, .cons (Eq.subst (motive := fun v => RdN s.heap v (pyD d)) p2.symm (RepV.rdn I h.2.1 (by omega) q1 r1.2)) w3⟩
end
theorem Sees.rdn (I : Inv X pins σ H s) {d : D} {v : V} {u : Value} (h : showD d = true) (n : ndD d ≤ 50000) (q : Sees X.K A H v d) (r : RelV v u) : RdN s.heap u (pyD d) := by
  match d, h, n, q with
  | .lst ds, h, n, ⟨a, xs, hv, e, q1⟩ =>
    subst hv
    cases r
    obtain ⟨its, rv, ⟨o, m, ho, hc, _, hd⟩, _⟩ := I.list (SqL.of e)
    exact .lst ho hc hd (RepL.rdn I (by simpa [showD] using h) (by have : 1 + ndL ds ≤ 50000 := n; omega) q1 rv)
  | .dct kds, h, n, ⟨a, kvs, hv, hs, q1⟩ =>
    subst hv
    cases r
    obtain ⟨z, hd, vs, rel, o, es, ep, ho, hx, hdt, hko, hp, nd⟩ := dk_rd I.hok hs
    obtain ⟨h1, h2⟩ := RepK.rdn I (by simpa [showD] using h) (by have : 1 + ndK kds ≤ 50000 := n; omega) q1 rel hp
    exact .dct hd ho hx.1 hdt (kvs := pyK kds) (by rw [pyK_keys]; exact h1) (by rw [pyK_vals]; exact h2)
  | .non, h, n, q => exact RepV.rdn I h n (show RepV X.K A H v .non from q) r
  | .bl b, h, n, q => exact RepV.rdn I h n (show RepV X.K A H v (.bl b) from q) r
  | .int b, h, n, q => exact RepV.rdn I h n (show RepV X.K A H v (.int b) from q) r
  | .str b, h, n, q => exact RepV.rdn I h n (show RepV X.K A H v (.str b) from q) r
  | .tup b, h, n, q => exact RepV.rdn I h n (show RepV X.K A H v (.tup b) from q) r
end
def gRepr : List D → (Dl.Slot → Prop) → Prop
  | [d], k => reprOk d ∧ k (.fro (.str (pyD d).shown))
  | _, _ => False
theorem cd_repr {X : Cx} (hgu : X.A.guards = some []) (hu : X.A.units + 64 < cLine) : CallD X (.builtin "repr") gRepr := callD_of fun pins s σ H vs us Q A ds k I r sl ht hg hq => by
  match ds, hg with
  | [d], ⟨h1, hk⟩ =>
    obtain ⟨v, rfl, q⟩ := seesL1 sl
    obtain ⟨u, rfl, rv⟩ := vals1 r
    refine RdN.repr (Sees.rdn I h1.1 h1.2.1 q rv) hgu (by have := h1.2.2; omega) h1.fits fun h' t tk hk' => ?_
    exact ⟨.str _, H, I.kept hk', ⟨t, rfl⟩, hq _ _ H (Ex.refl H) (newF (.str _)) hk⟩
end Dl
namespace Dl
open PySem L2
variable [TabN]
def MK (X : Cx) (kws : List Keyword) (ws : List WE) : Prop := PK X kws (taOf X.K ws)
theorem PK_weak {X : Cx} {e : List Keyword} {t t' : TA} (h : PK X e t) (k : ∀ σ H Q, t' σ H Q → t σ H Q) : PK X e t' := ⟨fun pos pins s σ H Q I q => h.run pos pins s σ H Q I (k σ H Q q)⟩
theorem mk_nil {X : Cx} : MK X [] [] := PK_weak pk_nil fun σ H Q ⟨B, ρ, Q', R, hw, hq⟩ =>
  hq [] [] ρ B H (fun _ z => z) (fun _ z => .inl z) R trivial (Sub.refl ρ) Kp.refl hw
theorem mk_cons {X : Cx} {nm : Option Str} {kpos : Pos} {e : Expr} {kws : List Keyword} {w : WE} {ws : List WE} (he : ME X e w) (hr : MK X kws ws) : MK X (⟨nm, e, kpos⟩ :: kws) (w :: ws) :=
  PK_weak (pk_cons he hr) fun σ H Q ⟨B, ρ, Q', R, hw, hq⟩ => by
    refine ⟨B, ρ, _, R, hw, fun s v ρ1 H1 post sub kp hw1 => ?_⟩
    obtain ⟨B1, b1, b1', R1, P1⟩ := post.pend
    refine ⟨B1, ρ1, _, R1, hw1, fun ss vs ρ2 B2 H2 b2 b2' R2 P2 sub2 kp2 q => ?_⟩
    refine hq (s :: ss) (v :: vs) ρ2 B2 H2 (fun a z => b2 a (b1 a z)) (fun a z => ?_) R2 ⟨P1.step R1 kp2 sub2 b2 b2', P2.start kp⟩ (sub.trans sub2) (kp.trans kp2 fun a z => sub.own a z) q
    rcases b2' a z with z | z
    · exact b1' a z
    · exact .inr (kp.back z)
def perm {α : Type} (d : α) (xs : List α) (is : List Nat) : List α := is.map fun i => xs.getD i d
structure KwB (K : PySem.W.Frag) (fd : FuncData) (ps ks : List Str) (is : List Nat) : Prop where
  to : ∀ (s : Shared) (ws : List Value), K.In s.heap → ws.length = ks.length → BindsTo s fd ⟨[], ks.zip ws⟩ (ps.zip (perm .none ws is))
  lt : ∀ i ∈ is, i < ks.length
def wCallK (C : WE) (ws : List WE) (is : List Nat) : WE := fun ρ Q => wArgs ws ρ fun ss ρ1 => frzL ρ1 ss fun ds ρ2 => ds.length = ws.length ∧ C ((perm .non ds is).map .fro) fun r _ => match r with
  | .fro d => Q (.fro d) ρ2
  | .own _ o => Q (.own false o) ρ2
  | _ => False
theorem perm_rep {K : PySem.W.Frag} {A : Addr → Prop} {H : Hp} {vs : List V} {ds : List D} (r : RepL K A H vs ds) : ∀ {is : List Nat}, (∀ i ∈ is, i < ds.length) → RepL K A H (perm .non vs is) (perm .non ds is)
  | [], _ => .nil
  | i :: is, h => by
    have hi : i < ds.length := h i (by simp)
    obtain ⟨v, e, rv⟩ := r.get (List.getElem?_eq_getElem hi)
    refine .cons ?_ (perm_rep r fun j hj => h j (List.mem_cons_of_mem _ hj))
    show RepV K A H (vs.getD i .non) (ds.getD i .non)
    rw [List.getD_eq_getElem?_getD, e, List.getD_eq_getElem?_getD, List.getElem?_eq_getElem hi]
    exact rv
theorem vals_getD : ∀ {vs : List V} {us : List Value}, Vals vs us → ∀ i, i < us.length → RelV (vs.getD i .non) (us.getD i .none)
  | _, _, .nil, i, h => absurd h (Nat.not_lt_zero i)
  | _, _, .cons a r, 0, _ => a
  | _, _, .cons a r, i + 1, h => vals_getD r i (Nat.lt_of_succ_lt_succ h)
theorem perm_vals {vs : List V} {us : List Value} (r : Vals vs us) : ∀ {is : List Nat}, (∀ i ∈ is, i < us.length) → Vals (perm .non vs is) (perm .none us is)
  | [], _ => .nil
  | i :: is, h => by
    have hi : i < us.length := h i (by simp)
    have hl := r.length
    have hi' : i < vs.length := by omega
    refine .cons ?_ (perm_vals r fun j hj => h j (List.mem_cons_of_mem _ hj))
    show RelV (vs.getD i .non) (us.getD i .none)
    exact vals_getD r i hi
theorem callK_ok {K : PySem.W.Frag} {C : WE} {B : Addr → Prop} {ρ : List Slot} {σ : L2.St} {H : Hp} {ws : List WE} {is : List Nat} {Q' : Slot → List Slot → Prop} {Q : VK} {E : XK} (hi : ∀ i ∈ is, i < ws.length) (R : Rep K B ρ σ H) (hw : wCallK C ws is ρ Q')
    (hq : ∀ s v ρ' H', Post K B ρ' σ H H' s v → Sub ρ' ρ → Kp (Own ρ σ) H H' → Q' s ρ' → Q v H') :
    taOf K ws σ H fun vs H1 => vs.length = ws.length ∧ spOf K is.length C (perm .non vs is) H1 Q E := by
  refine args_frz R hw fun ds vs ρ2 H2 R2 r sub kp ⟨hl, hC⟩ => ⟨by rw [r.length]; exact hl, ?_⟩
  have r' := perm_rep r (is := is) (fun i z => by rw [hl]; exact hi i z)
  refine ⟨by unfold perm; rw [List.length_map], Av B ρ2 σ, (perm .non ds is).map .fro, _, repL_rep (fun a z => R2.av_trk z) R2.tabs r', hC, fun s v ρ' H' post _ k3 h => ?_⟩
  have ex : Kp (fun _ => False) H2 H' := k3.mono fun a ⟨i, b, o', e1, _⟩ => by
    rw [List.getElem?_map] at e1
    cases q : (perm D.non ds is)[i]? with
    | none => rw [q] at e1; cases e1
    | some d => rw [q] at e1; cases e1
  have k' : Kp (Own ρ σ) H H' := kp.trans (ex.mono fun _ z => z.elim) fun _ z => z
  match s, post, h with
  | .fro d, post, h => exact hq _ _ ρ2 H' (postF (R2.same ex fun a z => .inl z) (post.2.av fun a z => .inr z)) sub k' h
  | .own b o, ⟨a, hv, n, nb, R', q⟩, h =>
    subst hv
    refine hq _ _ ρ2 H' (postO (b := false) (kp.back n) (fun z => R2.btr a z n) (R2.same ex fun x z => z.elim .inl fun z => .inr ⟨by rw [z]; exact n, by rw [z]; exact q.trk⟩) (q.av fun x z => ?_)) sub k' h
    rcases z with z | z | z
    · exact .inr (.inl (.inl z))
    · exact .inr (.inl (.inr z))
    · exact .inr (.inr z)
structure CalleeK (P : Program) (w : World) (K : PySem.W.Frag) (mg : Str → Option Value) (base : Heap) (k : Nat) (x : Str) (ps ks : List Str) (is : List Nat) (C : WE) : Prop where
  ex : ∃ (f : Addr) (fd : FuncData), FnG P w K mg base CX0 k f fd ps (spOf K ps.length C) ∧ mg x = some (.ref f) ∧ PySem.W.keepIn K (.ref f) = true ∧ KwB K fd ps ks is
theorem CalleeK.callK {X : Cx} {k : Nat} {x : Str} {ps ks : List Str} {is : List Nat} {C : WE} {p pos : Pos} {kws : List Keyword} {ws : List WE} (c : CalleeK X.prog X.w X.K X.mg X.base k x ps ks is C) (hr : Room k X.A) (hgu : X.A.guards = some []) (hg : Gl X x) (hkw : MK X kws ws)
    (hn : ws.length = ks.length := by rfl) (hn2 : is.length = ps.length := by rfl) (hall : (backToKw pos (keywordEach kws X.env)).all (·.1.isSome) = true := by rfl) (hks : (backToKw pos (keywordEach kws X.env)).filterMap (·.1) = ks := by rfl)
    (hdb : (x == ("__debug__" : Str)) = false := by decide) (hpl : ((backTo pos (starEach [] X.env)).any (·.1) || (backToKw pos (keywordEach kws X.env)).any (·.1.isNone)) = false := by rfl) :
    ME X (.Call (.Name x p) [] kws pos) (wCallK C ws is) := by
  obtain ⟨f, fd, F, hm, hk, hb⟩ := c.ex
  rw [← hn2] at F
  have hi : ∀ i ∈ is, i < ws.length := fun i z => by rw [hn]; exact hb.lt i z
  refine ⟨fun pins s σ H Q I ⟨B, ρ, Q', R, hw, hq⟩ => ?_⟩
  refine wpAny_Call_Name_kw (ld_glob I hg hm ?_ hdb)
  refine PySem.W.callWith_KW0 (h₀ := X.base) I.ok.mod.kin hk hall (thn (hkw.run pos pins s σ H _ I (callK_ok (E := E0) hi R hw hq)) fun us s1 ⟨vs, H1, I1, r, hl, h⟩ => ⟨I1.kIn, ?_⟩) hpl
  rw [hks]
  have hul : us.length = ks.length := by rw [← r.length, hl, hn]
  have r2 := perm_vals r (is := is) (fun i z => by rw [hul]; exact hb.lt i z)
  refine wpAny_call (codeAny_mono (F.run X.A X.stack s1 H1 ⟨[], ks.zip us⟩ (perm .none us is) (perm .non vs is) Q E0 hr hgu I1.env0 (hb.to s1 us I1.kIn hul) r2 h) fun res s' hq => ?_)
  match res, hq with
  | .ok (.ret u), hq => exact I1.after hq
  | .ok .next, hq => exact hq.elim
  | .ok .brk, hq => exact hq.elim
  | .ok .cont, hq => exact hq.elim
  | .error e, hq => exact hq.elim
end Dl
namespace Dl
open PySem L2
variable [TabN]
section
variable {X : Cx} {a b c : Expr} {pos : Pos} {w1 w2 w3 : WE}
def wDct0 : WE := fun ρ Q => Q (.own false (.dct [])) ρ
theorem me_dct0 : ME X (.Dict [] [] pos) wDct0 := me_of pe_dnewK fun B ρ σ H Q' Q R hw hq => fun p np => by
  have e := Ex.new (o := HO.dK []) np
  refine hq _ _ ρ _ (postO (b := false) (o := .dct []) np (fun z => R.btr p z np) (R.ex e fun x z => z.elim .inl fun z => .inr ?_) ⟨[], upd_same, .nil⟩) (Sub.refl ρ) e.kp hw
  subst z; exact ⟨np, by rw [upd_same]; exact nofun⟩
theorem Rep.updD {K : PySem.W.Frag} {B : Addr → Prop} {ρ : List Slot} {σ : L2.St} {H : Hp} {a : Addr} {xs ys : List (Key × V)} (R : Rep K B ρ σ H) (hb : B a) (e : H a = some (.dK xs)) : Rep K B ρ σ (L2.upd H a (.dK ys)) := by
  have kp : Kp (fun x => x = a) H (L2.upd H a (.dK ys)) := Kp.upd rfl fun o z => by rw [e] at z; cases z; exact fun q => q
  have hs : ∀ x, x = a → Av B ρ σ x := fun x z => by rw [z]; exact .inr hb
  refine ⟨R.len, fun i s h => ?_, R.inj, fun x z => kp.trk x (R.btr x z), R.dis, kp.tab R.tabs⟩
  have w := R.slot i s h
  cases s with
  | nil => trivial
  | fro d => obtain ⟨v, e1, r⟩ := w; exact ⟨v, e1, r.mono kp hs fun x z => .inl z⟩
  | own b o => obtain ⟨y, e1, r⟩ := w; exact ⟨y, e1, r.mono kp hs (fun x z => .inl z) fun z => R.dis y ⟨i, b, o, h, e1⟩ (by rw [z]; exact hb)⟩
  | var k => exact w
def wDct1 (k : Str) (w : WE) : WE := fun ρ Q => w ρ fun s ρ1 => frz ρ1 s fun d ρ2 => Q (.own false (.dct [(.inr k, d)])) ρ2
theorem me_dct1 {k : Str} {j : Nat} {kpos : Pos} (hv : ME X b w1) : ME X (.Dict [some (.Constant (.str k) j kpos)] [b] pos) (wDct1 k w1) :=
  me_of (pe_disp (pps_cons pe_str hv pps_nil) rfl rfl nofun (by show 1 ≤ 15; decide)) fun B ρ σ H Q' Q R hw hq => fun p np => by
    have e := Ex.new (o := HO.dK []) np
    have R1 : Rep X.K (fun x => B x ∨ x = p) ρ σ (L2.upd H p (.dK [])) := R.ex e fun x z => z.elim .inl fun z => .inr (by subst z; exact ⟨np, by rw [upd_same]; exact nofun⟩)
    refine ⟨_, ρ, _, R1, hw, fun s v ρ1 H1 post sub kp q => ?_⟩
    obtain ⟨B1, b1, b1', R2, P1⟩ := post.pend
    obtain ⟨d, ρ2, hd, R3, s3, rv⟩ := frz_ok (B0 := fun x => B x ∨ x = p) R2 P1 b1 R1.btr q
    have hp : H1 p = some (.dK []) := kp.keep p _ upd_same fun z => R1.dis p z (.inr rfl)
    refine ⟨hp, [(.inr k, v)], rfl, by show 1 ≤ 15; decide, ?_⟩
    have R4 : Rep X.K (fun x => B x ∨ x = p) ρ2 σ H1 := R3.fewer b1
    have R5 := Rep.updD (ys := [(Sum.inr k, v)]) R4 (.inr rfl) hp
    have kpp : Kp (fun x => x = p) H1 (L2.upd H1 p (.dK [(Sum.inr k, v)])) := Kp.upd rfl fun o z => by rw [hp] at z; cases z; exact fun q => q
    refine hq _ _ ρ2 _ (postO (b := false) (o := .dct [(.inr k, d)]) np (fun z => R.btr p z np) R5 ⟨_, upd_same, .cons (rv.mono kpp (fun x z => .inr (.inr z)) fun x z => .inl z) .nil⟩) (sub.trans s3) ?_ hd
    refine ⟨⟨fun x o h1 h2 t => ?_, fun x o h1 h2 => ?_⟩, fun x h1 => ?_, fun _ => R5.tabs⟩
    · have hx : x ≠ p := fun z => by rw [z, np] at h1; cases h1
      rw [upd_ne hx]
      exact kp.keep x o (e x o h1) h2 t
    · have hx : x ≠ p := fun z => by rw [z, np] at h1; cases h1
      rw [upd_ne hx]
      exact kp.imm x o (e x o h1) h2
    · by_cases hx : x = p
      · rw [hx, upd_same]; exact nofun
      · rw [upd_ne hx]
        exact kp.trk x (e.kp (S := fun _ => False) |>.trk x h1)
def wRev (w : WE) : WE := fun ρ Q => w ρ fun s ρ1 => match lookD ρ1 s with
  | some (.lst ds) => Q (.own false (.lst ds.reverse)) ρ1
  | _ => False
def gIsB : D → D → (Slot → Prop) → Prop
  | .bl a, .bl b, k => k (.fro (.bl (decide (a = b))))
  | _, _, _ => False
end
end Dl
namespace Dl
open PySem L2
variable [TabN]
inductive CE where
  | non | bl (b : Bool) | int (i : Int) | neg (i : Int) | pow (a b : Int) | str (x : Str) | tup (es : List CE) | lst (es : List CE) | dct0 | dct1 (k : Str) (e : CE)
mutual
def CE.d : CE → D
  | .non => .non
  | .bl b => .bl b
  | .int i => .int i
  | .neg i => .int (-i)
  | .pow a b => .int (a ^ b.toNat)
  | .str x => .str x
  | .tup es => .tup (CE.ds es)
  | .lst es => .lst (CE.ds es)
  | .dct0 => .dct []
  | .dct1 k e => .dct [(.inr k, CE.d e)]
def CE.ds : List CE → List D
  | [] => []
  | e :: es => CE.d e :: CE.ds es
end
def CE.s : CE → Slot
  | .lst es => .own false (.lst (CE.ds es))
  | .dct0 => .own false (.dct [])
  | .dct1 k e => .own false (.dct [(.inr k, CE.d e)])
  | e => .fro e.d
mutual
/-- the reading of the display -/
def wT : CE → WE
  | .non => wC .non
  | .bl b => wC (.bl b)
  | .int i => wC (.int i)
  | .neg i => wNeg (wC (.int i))
  | .pow a b => wOp gPow (wC (.int a)) (wC (.int b))
  | .str x => wC (.str x)
  | .tup es => wTup (wTs es)
  | .lst es => wLst (wTs es)
  | .dct0 => wDct0
  | .dct1 k e => wDct1 k (wT e)
def wTs : List CE → List WE
  | [] => []
  | e :: es => wT e :: wTs es
end
mutual
def CE.ok : CE → Bool
  | .pow a b => decide (0 ≤ b) && (decide (b ≤ 1000) && decide (a.natAbs < 2 ^ 64))
  | .tup es => decide (es.length ≤ 1000) && CE.oks es
  | .lst es => decide (es.length ≤ 1000) && CE.oks es
  | .dct1 _ e => CE.ok e
  | _ => true
def CE.oks : List CE → Bool
  | [] => true
  | e :: es => CE.ok e && CE.oks es
end
def CE.ss : List CE → List Slot
  | [] => []
  | e :: es => CE.s e :: CE.ss es
theorem CE.frz (e : CE) {ρ : List Slot} {k : D → List Slot → Prop} (h : k e.d ρ) : Dl.frz ρ e.s k := by cases e <;> exact h
theorem CE.frzL : ∀ (es : List CE) {ρ : List Slot} {k : List D → List Slot → Prop}, k (CE.ds es) ρ → Dl.frzL ρ (CE.ss es) k
  | [], _, _, h => h
  | e :: es, _, _, h => CE.frz e (CE.frzL es h)
theorem CE.ds_length : ∀ es : List CE, (CE.ds es).length = es.length
  | [] => rfl
  | e :: es => congrArg (· + 1) (CE.ds_length es)
theorem size1000 {n : Nat} (h : n ≤ 1000) : n ≤ sizeLine := Nat.le_trans h (by decide)
mutual
theorem wT_ok : ∀ (e : CE) {ρ : List Slot} {Q : Slot → List Slot → Prop}, e.ok = true → Q e.s ρ → wT e ρ Q
  | .non, _, _, _, h => h
  | .bl b, _, _, _, h => h
  | .int i, _, _, _, h => h
  | .neg i, _, _, _, h => h
  | .pow a b, _, _, o, h => by
    unfold CE.ok at o
    rw [Bool.and_eq_true, Bool.and_eq_true, decide_eq_true_eq, decide_eq_true_eq, decide_eq_true_eq] at o
    exact ⟨.inr ⟨o.1, by
      have h1 := PyProof.Rows.intBits_le o.2.2
      have h2 : (Builtin.Int.intBits a : Int) * b ≤ 64 * 1000 := Int.mul_le_mul (by omega) o.2.1 o.1 (by decide)
      exact Int.le_trans h2 (by decide)⟩, h⟩
  | .str x, _, _, _, h => h
  | .tup es, _, _, o, h => by
    unfold CE.ok at o
    rw [Bool.and_eq_true, decide_eq_true_eq] at o
    exact wTs_ok es o.2 (CE.frzL es ⟨by rw [CE.ds_length]; exact size1000 o.1, h⟩)
  | .lst es, _, _, o, h => by
    unfold CE.ok at o
    rw [Bool.and_eq_true, decide_eq_true_eq] at o
    exact wTs_ok es o.2 (CE.frzL es ⟨by rw [CE.ds_length]; exact size1000 o.1, h⟩)
  | .dct0, _, _, _, h => h
  | .dct1 k e, _, _, o, h => wT_ok e o (CE.frz e h)
theorem wTs_ok : ∀ (es : List CE) {ρ : List Slot} {k : List Slot → List Slot → Prop}, CE.oks es = true → k (CE.ss es) ρ → wArgs (wTs es) ρ k
  | [], _, _, _, h => h
  | e :: es, _, _, o, h => by
    unfold CE.oks at o
    rw [Bool.and_eq_true] at o
    exact wT_ok e o.1 (wTs_ok es o.2 h)
end
def wK (e : CE) : WE := fun ρ Q => e.ok = true ∧ Q e.s ρ
theorem me_k {X : Cx} {x : Expr} (e : CE) (h : ME X x (wT e)) : ME X x (wK e) := PE_weak h fun σ H Q ⟨B, ρ, Q', R, hw, hq⟩ => ⟨B, ρ, Q', R, wT_ok e hw.1 hw.2, hq⟩
end Dl
namespace Dl
open PySem L2
variable [TabN]
def gPop : O → List D → (O → D → Prop) → Prop
  | .lst ds, [.int i], k => ∃ (j : Nat) (d : D), (-(2 ^ 63) ≤ i ∧ i < 2 ^ 63) ∧ seqIndex? i ds.length = some j ∧ ds[j]? = some d ∧ k (.lst (ds.eraseIdx j)) d
  | _, _, _ => False
def wPop (i : Nat) (w : WE) : WE := wMt "list" i [w] gPop
section
variable {X : Cx}
end
end Dl
namespace Dl
open PySem L2 PyProof.Rows
variable [TabN]
section
variable {P : Program} {w : World} {A : Around} {E : Value → Shared → Prop} {s : Shared}
end
end Dl
namespace Dl
open PySem L2 PyProof.Rows
variable [TabN]
section
variable {X : Cx} {e : Expr} {w1 : WE}
def wSortSet (w : WE) : WE := fun ρ Q => w ρ fun s ρ1 => match lookD ρ1 s with
  | some (.lst ds) => ∃ ns : List Int, ds = ns.map .int ∧ ns.length < 64 ∧ ∀ ms : List Int, ms.Pairwise (· < ·) → (∀ x, x ∈ ms ↔ x ∈ ns) → ms.length ≤ ns.length → Q (.own false (.lst (ms.map .int))) ρ1
  | _ => False
end
end Dl
namespace Dl
open PySem L2
variable [TabN]
abbrev tI (t : Addr) : Obj := { cls := .type "tuple_iterator", data := .fields #[.ref t, .int 0 0] }
section
variable {P : Program} {w : World} {A : Around} {E : Value → Shared → Prop} {s : Shared}
end
def wEnum2 (ws : List WE) : WI := fun ρ Q => wArgs ws ρ fun ss ρ' => frzL ρ' ss fun ds ρ2 => match ds with
  | [.lst xs] => Q (enumD xs) ρ2
  | [.tup xs] => Q (enumD xs) ρ2
  | _ => False
end Dl
namespace Dl
open PySem L2
variable [TabN]
def ND : List Slot → List V → Prop
  | s :: ss, v :: vs => (∀ b o, s = .own b o → ∀ (j : Nat) (b' : Bool) (o' : O) (u : V), ss[j]? = some (.own b' o') → vs[j]? = some u → v ≠ u) ∧ ND ss vs
  | _, _ => True
def prepL (ρ : List Slot) : List Slot → (List Slot → List Slot → Prop) → Prop
  | [], k => k [] ρ
  | s :: ss, k => prep ρ s fun t ρ1 => prepL ρ1 ss fun ts ρ2 => k (t :: ts) ρ2
def putL : List Nat → List Slot → List Slot → (List Slot → Prop) → Prop
  | [], ρ, [], k => k ρ
  | i :: is, ρ, t :: ts, k => put i ρ t fun ρ1 => putL is ρ1 ts k
  | _, _, _, _ => False
def NV (ts ss : List Slot) : Prop := ∀ (j : Nat) (t : Slot), ts[j]? = some t → (∀ i, t ≠ Slot.var i) ∧ ∀ (b : Bool) (o : O), t = Slot.own b o → ss[j]? = some (Slot.own b o)
section
variable {K : PySem.W.Frag} {Hs H0 : Hp} {L : Nat → Addr → Prop} {σ : L2.St} {H : Hp}
theorem ND.of : ∀ {ts ss : List Slot} {vs : List V}, NV ts ss → ND ss vs → ts.length = ss.length → ND ts vs
  | [], _, _, _, _, _ => trivial
  | t :: ts, s :: ss, [], _, _, _ => trivial
  | t :: ts, s :: ss, v :: vs, nv, nd, hl => by
    refine ⟨fun b o e j b' o' u e1 e2 => nd.1 b o (by have := (nv 0 t rfl).2 b o e; simpa using this) j b' o' u ?_ e2, ND.of (fun j t e => ?_) nd.2 (by simpa using hl)⟩
    · have := (nv (j + 1) _ (by simpa using e1)).2 b' o' rfl
      simpa using this
    · have := nv (j + 1) t (by simpa using e)
      exact ⟨this.1, fun b o z => by have := this.2 b o z; simpa using this⟩
theorem PendL.len : ∀ {ss : List Slot} {vs : List V} {B : Addr → Prop} {ρ : List Slot}, PendL K Hs B ρ σ H ss vs → ss.length = vs.length
  | [], [], _, _, _ => rfl
  | _ :: _, _ :: _, _, _, p => congrArg (· + 1) (PendL.len p.2)
  | [], _ :: _, _, _, p => p.elim
  | _ :: _, [], _, _, p => p.elim
end
def wParN (is : List Nat) (ws : List WE) : WS := fun KD ρ => wArgs ws ρ fun ss ρ1 => prepL ρ1 ss fun ts ρ2 => putL is ρ2 ts KD.nx
def wTupAsg (is : List Nat) (ws : List WE) : WS := fun KD ρ => wArgs ws ρ fun ss ρ1 => ss.length ≤ sizeLine ∧ prepL ρ1 ss fun ts ρ2 => putL is ρ2 ts KD.nx
end Dl
namespace Dl
open PySem L2
variable [TabN]
section
variable {P : Program} {w : World} {A : Around} {E : Value → Shared → Prop} {s : Shared}
end
section
variable {X : Cx} {a : Expr} {w1 : WE} {pos : Pos}
def wRev2 (w : WE) : WE := fun ρ Q => w ρ fun s ρ1 => match lookD ρ1 s with
  | some (.lst ds) => Q (.own false (.lst ds.reverse)) ρ1
  | some (.tup ds) => Q (.fro (.tup ds.reverse)) ρ1
  | _ => False
def strsOf : List D → Option (List Str)
  | [] => some []
  | .str x :: r => (strsOf r).map (x :: ·)
  | _ => none
theorem strs_rep {K : PySem.W.Frag} {A : Addr → Prop} {H : Hp} : ∀ {ns : List Str} {vs : List V}, RepL K A H vs (ns.map .str) → vs = ns.map V.str
  | [], _, .nil => rfl
  | n :: ns, _, .cons h r => by cases h; rw [strs_rep r]; rfl
theorem RepL.strs {K : PySem.W.Frag} {A : Addr → Prop} {H : Hp} (ns : List Str) : RepL K A H (ns.map V.str) (ns.map D.str) := by
  induction ns with
  | nil => exact .nil
  | cons n r ih => exact .cons (.str n) ih
def gSortS : List D → (Dl.Slot → Prop) → Prop
  | [.lst ds], k => ∃ xs : List Str, ds = xs.map .str ∧ xs.length < 64 ∧ ∀ ys : List Str, ys.Perm xs → PyProof.Rows.sortedS ys = true → k (.own false (.lst (ys.map .str)))
  | _, _ => False
theorem cd_sortS : CallD X (.builtin "sorted") gSortS := callD_of fun pins s σ H vs us Q A ds k I r sl ht hg hq => by
  match ds, hg with
  | [.lst _], ⟨xs, rfl, h64, hg⟩ =>
    obtain ⟨v, rfl, q⟩ := seesL1 sl
    obtain ⟨a, zs, hv, e, rl⟩ := q
    have := strs_rep rl
    subst this
    subst hv
    exact cr_sortedS pins s σ H _ us Q I r ⟨a, xs, rfl, SqL.of e, h64, fun ys p h1 h2 np => hq _ _ _ (Ex.new np) (new_lst np (RepL.strs ys)) (hg ys h1 h2)⟩
end
end Dl
namespace Dl
open PySem L2
variable [TabN]
end Dl
namespace Dl
open PySem L2
variable [TabN]
def fg1 (i : Nat) (ρ : List Slot) : List Slot := match ρ[i]? with
  | some (.own true _) => ρ
  | _ => ρ.set i .nil
def fgs : List Nat → List Slot → List Slot
  | [], ρ => ρ
  | i :: is, ρ => fgs is (fg1 i ρ)
section
variable {K : PySem.W.Frag} {B : Addr → Prop} {ρ : List Slot} {σ : L2.St} {H H0 : Hp} {L : Nat → Addr → Prop} {i : Nat}
theorem own_nil {a : Addr} (h : Own (ρ.set i .nil) σ a) : Own ρ σ a := by
  obtain ⟨j, b, o, e1, e2⟩ := h
  rcases getElem?_set_of e1 with ⟨_, z⟩ | ⟨_, z⟩
  · cases z
  · exact ⟨j, b, o, z, e2⟩
theorem Rep.setNil (R : Rep K B ρ σ H) : Rep K B (ρ.set i .nil) σ H := by
  have av : ∀ a, Av B (ρ.set i .nil) σ a → Av B ρ σ a := fun a z => z.elim (fun z => .inl (own_nil z)) .inr
  refine ⟨by rw [List.length_set]; exact R.len, fun j s e => ?_, fun j k b o b' o' a e1 e2 e3 e4 => ?_, R.btr, fun a z => R.dis a (own_nil z), R.tabs⟩
  · rcases getElem?_set_of e with ⟨_, z⟩ | ⟨_, z⟩
    · subst z; trivial
    · have w := R.slot j s z
      cases s with
      | nil => trivial
      | fro d => obtain ⟨v, e1, r⟩ := w; exact ⟨v, e1, r.av av⟩
      | own b o => obtain ⟨a, e1, r⟩ := w; exact ⟨a, e1, r.av av⟩
      | var k => exact w
  · rcases getElem?_set_of e1 with ⟨_, z⟩ | ⟨_, z1⟩
    · cases z
    · rcases getElem?_set_of e2 with ⟨_, z⟩ | ⟨_, z2⟩
      · cases z
      · exact R.inj j k b o b' o' a z1 z2 e3 e4
theorem Fr.setNil (F : Fr H0 L ρ σ H) (h : ∀ o, ρ[i]? ≠ some (.own true o)) : Fr H0 L (ρ.set i .nil) σ H where
  keep := fun a o e n t => F.keep a o e n t
  imm := F.imm
  trk := F.trk
  ownf := fun j o a e1 e2 => by
    rcases getElem?_set_of e1 with ⟨_, z⟩ | ⟨_, z⟩
    · cases z
    · exact F.ownf j o a z e2
  lent := fun j a => by
    rw [F.lent j a]
    by_cases n : i = j
    · subst n
      constructor
      · rintro ⟨⟨o, e⟩, _⟩; exact (h o e).elim
      · rintro ⟨⟨o, e⟩, _⟩
        rcases getElem?_set_of e with ⟨_, z⟩ | ⟨n, _⟩
        · cases z
        · exact absurd rfl n
    · rw [List.getElem?_set_ne n]
theorem Rep.fg1 (R : Rep K B ρ σ H) : Rep K B (Dl.fg1 i ρ) σ H := by
  unfold Dl.fg1
  split
  · exact R
  · exact R.setNil
theorem Fr.fg1 (F : Fr H0 L ρ σ H) : Fr H0 L (Dl.fg1 i ρ) σ H := by
  unfold Dl.fg1
  split
  · exact F
  · rename_i h; exact F.setNil fun o e => h o e
theorem Rep.fgs : ∀ {is : List Nat} {ρ : List Slot}, Rep K B ρ σ H → Rep K B (Dl.fgs is ρ) σ H
  | [], _, R => R
  | i :: is, ρ, R => Rep.fgs (is := is) (ρ := Dl.fg1 i ρ) R.fg1
theorem Fr.fgs : ∀ {is : List Nat} {ρ : List Slot}, Fr H0 L ρ σ H → Fr H0 L (Dl.fgs is ρ) σ H
  | [], _, R => R
  | i :: is, ρ, R => Fr.fgs (is := is) (ρ := Dl.fg1 i ρ) R.fg1
end
def wFg (is : List Nat) (w : WS) : WS := fun KD ρ => w { KD with nx := fun ρ' => KD.nx (fgs is ρ') } ρ
def wFgL (is js : List Nat) (w : WS) : WS := fun KD ρ => w { KD with nx := fun ρ' => KD.nx (fgs is ρ'), ct := fun ρ' => KD.ct (fgs is ρ'), bk := fun ρ' => KD.bk (fgs js ρ') } ρ
theorem ms_fg {X : Cx} {st : Stmt} {w : WS} {is : List Nat} (h : MS X st w) : MS X st (wFg is w) := ms_of h fun B H0 L ρ σ H KD D R F hw e =>
  ⟨B, H0, L, ρ, _, R, F, hw, ⟨fun ρ' σ' H' R' F' q => e.nx _ σ' H' R'.fgs F'.fgs q, e.bk, e.ct, e.rt⟩⟩
theorem mss_fgl {X : Cx} {st : List Stmt} {w : WS} {is js : List Nat} (h : MSs X st w) : MSs X st (wFgL is js w) := PSs_weak h fun D σ H ⟨B, H0, L, ρ, KD, R, F, hw, e⟩ =>
  ⟨B, H0, L, ρ, _, R, F, hw, ⟨fun ρ' σ' H' R' F' q => e.nx _ σ' H' R'.fgs F'.fgs q, fun ρ' σ' H' R' F' q => e.bk _ σ' H' R'.fgs F'.fgs q, fun ρ' σ' H' R' F' q => e.ct _ σ' H' R'.fgs F'.fgs q, e.rt⟩⟩
def fz1 (i : Nat) (ρ : List Slot) : List Slot := match ρ[i]? with
  | some (.own false o) => ρ.set i (.fro o.d)
  | _ => ρ
def fzs : List Nat → List Slot → List Slot
  | [], ρ => ρ
  | i :: is, ρ => fzs is (fz1 i ρ)
section
variable {K : PySem.W.Frag} {B : Addr → Prop} {ρ : List Slot} {σ : L2.St} {H H0 : Hp} {L : Nat → Addr → Prop} {i : Nat}
theorem Rep.fz1 (R : Rep K B ρ σ H) : Rep K B (Dl.fz1 i ρ) σ H ∧ Sub (Dl.fz1 i ρ) ρ := by
  unfold Dl.fz1
  split
  · rename_i o h; exact ⟨(R.freeze h).1, (R.freeze h).2.1⟩
  · exact ⟨R, Sub.refl ρ⟩
theorem Rep.fzs : ∀ {is : List Nat} {ρ : List Slot}, Rep K B ρ σ H → Rep K B (Dl.fzs is ρ) σ H ∧ Sub (Dl.fzs is ρ) ρ
  | [], ρ, R => ⟨R, Sub.refl ρ⟩
  | i :: is, ρ, R => by
    obtain ⟨R1, s1⟩ := R.fz1 (i := i)
    obtain ⟨R2, s2⟩ := Rep.fzs (is := is) (ρ := Dl.fz1 i ρ) R1
    exact ⟨R2, s1.trans s2⟩
end
def wFz (is : List Nat) (w : WS) : WS := fun KD ρ => w { KD with nx := fun ρ' => KD.nx (fzs is ρ') } ρ
theorem ms_fz {X : Cx} {st : Stmt} {w : WS} {is : List Nat} (h : MS X st w) : MS X st (wFz is w) := ms_of h fun B H0 L ρ σ H KD D R F hw e =>
  ⟨B, H0, L, ρ, _, R, F, hw, ⟨fun ρ' σ' H' R' F' q => e.nx _ σ' H' R'.fzs.1 (F'.step Kp.refl R'.fzs.2) q, e.bk, e.ct, e.rt⟩⟩
def wNever : WS := fun _ _ => False
theorem ms_never {X : Cx} {st : Stmt} : MS X st wNever := ⟨fun pins s σ H D I ⟨B, H0, L, ρ, KD, R, F, hw, e⟩ => hw.elim⟩
def flatD : D → Bool
  | .non => true
  | .bl _ => true
  | .int _ => true
  | .str _ => true
  | _ => false
def keyV : D → V
  | .non => .non
  | .bl b => .bl b
  | .int i => .int i
  | .str x => .str x
  | _ => .non
theorem rep_flat {K : PySem.W.Frag} {A : Addr → Prop} {H : Hp} {v : V} {d : D} (h : flatD d = true) (r : RepV K A H v d) : v = keyV d ∧ flatV v = true := by
  cases r with
  | non => exact ⟨rfl, rfl⟩
  | bl b => exact ⟨rfl, rfl⟩
  | int i => exact ⟨rfl, rfl⟩
  | str x => exact ⟨rfl, rfl⟩
  | _ => cases h
theorem rep_flats {K : PySem.W.Frag} {A : Addr → Prop} {H : Hp} : ∀ {vs : List V} {ds : List D}, ds.all flatD = true → RepL K A H vs ds → vs = ds.map keyV ∧ vs.all flatV = true
  | _, _, _, .nil => ⟨rfl, rfl⟩
  | _, _, h, .cons r1 r2 => by
    rw [List.all_cons, Bool.and_eq_true] at h
    obtain ⟨e1, f1⟩ := rep_flat h.1 r1
    obtain ⟨e2, f2⟩ := rep_flats h.2 r2
    subst e1 e2
    exact ⟨rfl, by rw [List.all_cons, f1, f2]; rfl⟩
theorem sees_flat {K : PySem.W.Frag} {A : Addr → Prop} {H : Hp} {v : V} {d : D} (h : flatD d = true) (s : Sees K A H v d) : v = keyV d ∧ flatV v = true := by
  cases d with
  | non => exact rep_flat h (show RepV K A H v .non from s)
  | bl b => exact rep_flat h (show RepV K A H v (.bl b) from s)
  | int i => exact rep_flat h (show RepV K A H v (.int i) from s)
  | str x => exact rep_flat h (show RepV K A H v (.str x) from s)
  | _ => cases h
def inD (d : D) (ds : List D) : Bool := inV (keyV d) (ds.map keyV)
def gIn : D → D → (Slot → Prop) → Prop
  | .str ⟨cs⟩, .str z, k => ∃ c, cs = #[c] ∧ k (.fro (.bl (decide (c ∈ z.cps.toList))))
  | d, .tup ds, k => flatD d = true ∧ ds.all flatD = true ∧ k (.fro (.bl (inD d ds)))
  | d, .lst ds, k => flatD d = true ∧ ds.all flatD = true ∧ k (.fro (.bl (inD d ds)))
  | _, _, _ => False
def gNotIn : D → D → (Slot → Prop) → Prop
  | .str ⟨cs⟩, .str z, k => ∃ c, cs = #[c] ∧ k (.fro (.bl (!decide (c ∈ z.cps.toList))))
  | d, .tup ds, k => flatD d = true ∧ ds.all flatD = true ∧ k (.fro (.bl (!inD d ds)))
  | d, .lst ds, k => flatD d = true ∧ ds.all flatD = true ∧ k (.fro (.bl (!inD d ds)))
  | _, _, _ => False
theorem gIn_tup {d : D} {ds : List D} {k : Slot → Prop} : gIn d (.tup ds) k = (flatD d = true ∧ ds.all flatD = true ∧ k (.fro (.bl (inD d ds)))) := by cases d <;> rfl
theorem gIn_lst {d : D} {ds : List D} {k : Slot → Prop} : gIn d (.lst ds) k = (flatD d = true ∧ ds.all flatD = true ∧ k (.fro (.bl (inD d ds)))) := by cases d <;> rfl
theorem gNotIn_tup {d : D} {ds : List D} {k : Slot → Prop} : gNotIn d (.tup ds) k = (flatD d = true ∧ ds.all flatD = true ∧ k (.fro (.bl (!inD d ds)))) := by cases d <;> rfl
theorem gNotIn_lst {d : D} {ds : List D} {k : Slot → Prop} : gNotIn d (.lst ds) k = (flatD d = true ∧ ds.all flatD = true ∧ k (.fro (.bl (!inD d ds)))) := by cases d <;> rfl
theorem in_seq {K : PySem.W.Frag} {A : Addr → Prop} {H : Hp} {x y : V} {d : D} {ds : List D} (hd : flatD d = true) (hds : ds.all flatD = true) (sd : Sees K A H x d) (se : Sees K A H y (.tup ds) ∨ Sees K A H y (.lst ds)) :
    ∃ p xs, y = .ref p ∧ (SqL K H p xs ∨ SqT K H p xs) ∧ flatV x = true ∧ xs.all flatV = true ∧ inV x xs = inD d ds := by
  obtain ⟨ex, fx⟩ := sees_flat hd sd
  rcases se with se | ⟨a, xs, e1, e2, r⟩
  · obtain ⟨a, xs, rfl, hs, r⟩ := sees_tup se
    obtain ⟨e, f⟩ := rep_flats hds r
    exact ⟨a, xs, rfl, .inr hs, fx, f, by rw [ex, e]; rfl⟩
  · obtain ⟨e, f⟩ := rep_flats hds r
    exact ⟨a, xs, e1, .inl (SqL.of e2), fx, f, by rw [ex, e]; rfl⟩
section
variable {X : Cx}
theorem od_in : OpD X (compareOp .In) gIn := opD_of fun pins s σ H x y v u Q A d e k I rx ry sd se ht hg hq => by
  cases e with
  | str z =>
    cases d with
    | str t =>
      obtain ⟨cs⟩ := t
      obtain ⟨c, rfl, hk⟩ := hg
      exact op_in_sign pins s σ H x y v u Q I rx ry ⟨c, z, sees_str sd, sees_str se, hq _ _ H (Ex.refl H) (newF (.bl _)) hk⟩
    | _ => exact hg.elim
  | tup ds =>
    rw [gIn_tup] at hg
    obtain ⟨h1, h2, hk⟩ := hg
    obtain ⟨p, xs, rfl, hs, f1, f2, e⟩ := in_seq h1 h2 sd (.inl se)
    refine op_in_seq pins s σ H x _ v u Q I rx ry ⟨p, xs, rfl, hs, f1, f2, ?_⟩
    rw [e]
    exact hq _ _ H (Ex.refl H) (newF (.bl _)) hk
  | lst ds =>
    rw [gIn_lst] at hg
    obtain ⟨h1, h2, hk⟩ := hg
    obtain ⟨p, xs, rfl, hs, f1, f2, e⟩ := in_seq h1 h2 sd (.inr se)
    refine op_in_seq pins s σ H x _ v u Q I rx ry ⟨p, xs, rfl, hs, f1, f2, ?_⟩
    rw [e]
    exact hq _ _ H (Ex.refl H) (newF (.bl _)) hk
  | _ => cases d <;> exact hg.elim
end
end Dl
namespace Dl
open PySem L2
variable [TabN]
def gAllT : List WG → List D → List Slot → (List Slot → Prop) → Prop
  | [], [], ρ, k => k ρ
  | g :: gs, d :: ds, ρ, k => g d ρ fun ρ' => gAllT gs ds ρ' k
  | _, _, _, _ => False
def gTpG (gs : List WG) : WG := fun d ρ k => match d with
  | .tup ds => ds.length = gs.length ∧ gAllT gs ds ρ k
  | .lst ds => ds.length = gs.length ∧ gAllT gs ds ρ k
  | _ => False
def gsOfG (K : PySem.W.Frag) (js : List Nat) (gs : List WG) : TGs := fun vs σ H Q => ∃ (B : Addr → Prop) (H0 : Hp) (L : Nat → Addr → Prop) (ρ : List Slot) (ds : List D) (k : List Slot → Prop), Rep K B ρ σ H ∧ Fr H0 L ρ σ H ∧ RepL K (Av B ρ σ) H vs ds ∧ gAllT gs ds ρ k ∧
  ∀ ρ' σ', Rep K B ρ' σ' H → Fr H0 L ρ' σ' H → (∀ j, j ∉ js → σ'[j]? = σ[j]? ∧ ρ'[j]? = ρ[j]?) → (∀ (j : Nat) (b : Bool) (o : O), j ∈ js → ρ'[j]? ≠ some (.own b o)) → σ'.length = σ.length → k ρ' → Q σ' H
section
variable {X : Cx} {pos : Pos}
structure MGG (X : Cx) (ts : List Expr) (js : List Nat) (gs : List WG) : Prop where
  run : PGs X ts (gsOfG X.K js gs)
end
def wArgsS : List (Bool × WE) → List Slot → (List D → List Slot → Prop) → Prop
  | [], ρ, k => k [] ρ
  | (false, w) :: ws, ρ, k => w ρ fun s ρ1 => frz ρ1 s fun d ρ2 => wArgsS ws ρ2 fun ds ρ3 => k (d :: ds) ρ3
  | (true, w) :: ws, ρ, k => w ρ fun s ρ1 => frz ρ1 s fun d ρ2 => match d with
    | .tup es => wArgsS ws ρ2 fun ds ρ3 => k (es ++ ds) ρ3
    | .lst es => wArgsS ws ρ2 fun ds ρ3 => k (es ++ ds) ρ3
    | _ => False
section
variable {X : Cx} {pos : Pos} {e : Expr} {es : List Expr} {w : WE} {ws : List (Bool × WE)}
def wTupS (ws : List (Bool × WE)) : WE := fun ρ Q => wArgsS ws ρ fun ds ρ2 => ds.length ≤ sizeLine ∧ Q (.fro (.tup ds)) ρ2
def wLstS (ws : List (Bool × WE)) : WE := fun ρ Q => wArgsS ws ρ fun ds ρ2 => ds.length ≤ sizeLine ∧ Q (.own false (.lst ds)) ρ2
end
end Dl
namespace Dl
open PySem L2 PyProof.Rows
variable [TabN]
instance keyMem (k : L2.Key) (S : List L2.Key) : Decidable (k ∈ S) := @List.instDecidableMemOfLawfulBEq _ instBEqOfDecidableEq inferInstance k S
def countK (S : List L2.Key) : List L2.Key → Nat
  | [] => 0
  | k :: ks => (if k ∈ S then 0 else 1) + countK (S ++ [k]) ks
section
variable {P : Program} {w : World} {A : Around} {E : Value → Shared → Prop} {s : Shared}
end
end Dl
namespace Dl
open PySem L2 PyProof.Rows
variable [TabN]
def keyD : L2.Key → D
  | .inl i => .int i
  | .inr x => .str x
section
variable {X : Cx} {e : Expr} {w1 : WE}
def wLenSet (w : WE) : WE := fun ρ Q => w ρ fun s ρ1 => match lookD ρ1 s with
  | some (.lst ds) => ∃ ks : List L2.Key, ds = ks.map keyD ∧ ks.length ≤ 1000 ∧ Q (.fro (.int (countK [] ks))) ρ1
  | _ => False
end
end Dl
namespace Dl
open PySem L2 PyProof.Rows
variable [TabN]
section
variable {X : Cx} {e : Expr} {w1 : WE}
def wSortSet2 (w : WE) : WE := fun ρ Q => w ρ fun s ρ1 => match lookD ρ1 s with
  | some (.lst ds) => ∃ ns : List Int, ds = ns.map .int ∧ ns.length < 64 ∧ ∀ ms : List Int, ms.Pairwise (· < ·) → (∀ x, x ∈ ms ↔ x ∈ ns) → ms.length ≤ ns.length → Q (.own false (.lst (ms.map .int))) ρ1
  | some (.tup ds) => ∃ ns : List Int, ds = ns.map .int ∧ ns.length < 64 ∧ ∀ ms : List Int, ms.Pairwise (· < ·) → (∀ x, x ∈ ms ↔ x ∈ ns) → ms.length ≤ ns.length → Q (.own false (.lst (ms.map .int))) ρ1
  | _ => False
end
end Dl
namespace Dl
open PySem L2
variable [TabN]
section
variable {X : Cx}
def gEqNil : D → D → (Slot → Prop) → Prop
  | .tup ds, .tup [], k => k (.fro (.bl ds.isEmpty))
  | _, _, _ => False
theorem od_eqNil (hu : X.A.units + 64 < cLine) : OpD X (compareOp .Eq) gEqNil := opD_of fun pins s σ H x y v u Q A d e k I rx ry sd se ht hg hq => by
  match d, e, hg, sd, se with
  | .tup ds, .tup [], hg, sd, se =>
    obtain ⟨a, xs, rfl, h1, r1⟩ := sees_tup sd
    obtain ⟨b, ys, rfl, h2, r2⟩ := sees_tup se
    cases r2
    cases rx
    cases ry
    obtain ⟨its, v1, t1, _⟩ := I.tuple h1
    obtain ⟨its2, v2, t2, _⟩ := I.tuple h2
    cases v2
    refine SeqAt.eq_tupleAt (e := fun _ => true) t1 t2 (by omega) (fun j h1 h2 => absurd h2 (by simp)) ⟨.bl ds.isEmpty, H, I, ?_, hq _ _ H (Ex.refl H) (newF (.bl _)) hg⟩
    have hl : its.length = ds.length := by rw [← v1.length, r1.length]
    have e : ((List.range (min its.toArray.size ([] : List Value).toArray.size)).all (fun _ => true) && its.toArray.size == ([] : List Value).toArray.size) = ds.isEmpty := by
      simp only [List.size_toArray, List.length_nil, Nat.min_zero, List.range_zero, List.all_nil, Bool.true_and, hl]
      cases ds <;> rfl
    rw [e]
    rfl
end
end Dl
namespace Dl
open PySem L2
variable [TabN]
def gNotB : D → D → (Slot → Prop) → Prop
  | .bl a, .bl b, k => k (.fro (.bl (!decide (a = b))))
  | _, _, _ => False
end Dl
namespace Dl
open PySem L2 PySem.Spec PyProof.Rows
variable [TabN]
section
variable {X : Cx}
def gMul2 : D → D → (Dl.Slot → Prop) → Prop
  | .tup ds, .int k, f => ds ≠ [] ∧ ds.length ≤ 1000 ∧ 0 ≤ k ∧ k ≤ 1000 ∧ f (.fro (.tup (List.replicate k.toNat ds).flatten))
  | a, b, f => gMul a b f
variable {a b c d : Expr} {pos : Pos} {ta tb tc td : TE}
variable {w1 w2 w3 w4 : WE}
end
end Dl
namespace Dl
open PySem L2 PySem.Spec PyProof.Rows
variable [TabN]
def kOfD : D → Option Key
  | .int i => some (.inl i)
  | .str x => some (.inr x)
  | _ => none
def valD (kds : List (Key × D)) (k : Key) : Option D := (kds.find? fun kv => decide (kv.1 = k)).map (·.2)
def putD (kds : List (Key × D)) (k : Key) (d : D) : List (Key × D) :=
  if (kds.any fun kv => decide (kv.1 = k)) = true then kds.map (fun kv => if kv.1 = k then (kv.1, d) else kv) else kds ++ [(k, d)]
def mergeD (kds more : List (Key × D)) : List (Key × D) := more.foldl (fun acc kv => putD acc kv.1 kv.2) kds
section
variable {K : PySem.W.Frag} {A : Addr → Prop} {H : Hp}
theorem RepK.length {kvs : List (Key × V)} {kds : List (Key × D)} (r : RepK K A H kvs kds) : kvs.length = kds.length := by
  induction kvs generalizing kds with
  | nil => cases r; rfl
  | cons p kvs ih => cases r with
    | cons h t => rw [List.length_cons, List.length_cons, ih t]
theorem RepK.any {kvs : List (Key × V)} {kds : List (Key × D)} (r : RepK K A H kvs kds) (k : Key) : (kvs.any fun kv => decide (kv.1 = k)) = (kds.any fun kv => decide (kv.1 = k)) := by
  induction kvs generalizing kds with
  | nil => cases r; rfl
  | cons p kvs ih => cases r with
    | cons h t => rw [List.any_cons, List.any_cons, ih t]
theorem RepK.append {a b : List (Key × V)} {c d : List (Key × D)} (r : RepK K A H a c) (q : RepK K A H b d) : RepK K A H (a ++ b) (c ++ d) := by
  induction a generalizing c with
  | nil => cases r; exact q
  | cons p a ih => cases r with
    | cons h t => exact .cons h (ih t)
theorem RepK.mapIf {kvs : List (Key × V)} {kds : List (Key × D)} (r : RepK K A H kvs kds) (k : Key) {v : V} {d : D} (h : RepV K A H v d) : RepK K A H (kvs.map fun kv => if kv.1 = k then (kv.1, v) else kv) (kds.map fun kv => if kv.1 = k then (kv.1, d) else kv) := by
  induction kvs generalizing kds with
  | nil => cases r; exact .nil
  | cons p kvs ih => cases r with
    | @cons k' v' vs' d' ds' h' t =>
      rw [List.map_cons, List.map_cons]
      by_cases e : k' = k
      · rw [if_pos e, if_pos e]; exact .cons h (ih t)
      · rw [if_neg e, if_neg e]; exact .cons h' (ih t)
theorem RepK.put {kvs : List (Key × V)} {kds : List (Key × D)} (r : RepK K A H kvs kds) (k : Key) {v : V} {d : D} (h : RepV K A H v d) : RepK K A H (putK kvs k v) (putD kds k d) := by
  unfold putK putD
  rw [r.any k]
  by_cases e : (kds.any fun kv => decide (kv.1 = k)) = true
  · rw [if_pos e, if_pos e]; exact r.mapIf k h
  · rw [if_neg e, if_neg e]; exact r.append (.cons h .nil)
theorem RepK.val {kvs : List (Key × V)} {kds : List (Key × D)} (r : RepK K A H kvs kds) (k : Key) : (∃ v d, valV kvs k = some v ∧ valD kds k = some d ∧ RepV K A H v d) ∨ (valV kvs k = none ∧ valD kds k = none) := by
  induction kvs generalizing kds with
  | nil => cases r; exact .inr ⟨rfl, rfl⟩
  | cons p kvs ih => cases r with
    | @cons k' v' vs' d' ds' h' t =>
      by_cases e : k' = k
      · exact .inl ⟨v', d', by unfold valV; rw [List.find?_cons, decide_eq_true e]; rfl, by unfold valD; rw [List.find?_cons, decide_eq_true e]; rfl, h'⟩
      · have e1 : valV ((k', v') :: kvs) k = valV kvs k := by unfold valV; rw [List.find?_cons, decide_eq_false e]
        have e2 : valD ((k', d') :: ds') k = valD ds' k := by unfold valD; rw [List.find?_cons, decide_eq_false e]
        rw [e1, e2]
        exact ih t
end
section
variable {X : Cx}
def gUpd : O → List D → (O → D → Prop) → Prop
  | .dct kds, [.dct es], k => kds.length + es.length ≤ sizeLine ∧ k (.dct (mergeD kds es)) .non
  | _, _, _ => False
def wUpd (i : Nat) (w : WE) : WE := wMt "dict" i [w] gUpd
def gSortD : List D → (Dl.Slot → Prop) → Prop
  | [.dct kds], k => ∃ ns : List Int, kds.map (·.1) = ns.map Sum.inl ∧ ∀ ms : List Int, ms.Perm ns → ms.Pairwise (· ≤ ·) → k (.own false (.lst (ms.map .int)))
  | _, _ => False
end
end Dl
namespace Dl
open PySem L2 PySem.Spec PyProof.Rows
variable [TabN]
def putFD (f : Str) (d : D) : List (Str × D) → List (Str × D)
  | [] => [(f, d)]
  | (g, x) :: r => if g = f then (g, d) :: r else (g, x) :: putFD f d r
section
variable {K : PySem.W.Frag} {A : Addr → Prop} {H : Hp}
theorem RepF.look {fvs : List (Str × V)} {fds : List (Str × D)} (r : RepF K A H fvs fds) {f : Str} {d : D} (h : fds.lookup f = some d) : ∃ v, fvs.lookup f = some v ∧ RepV K A H v d := by
  induction fvs generalizing fds with
  | nil => cases r; cases h
  | cons p fvs ih => cases r with
    | @cons k v vs d' ds h1 t =>
      rw [List.lookup_cons] at h ⊢
      by_cases e : (f == k) = true
      · rw [e] at h ⊢
        cases h
        exact ⟨v, rfl, h1⟩
      · have e' : (f == k) = false := by simpa using e
        rw [e'] at h ⊢
        exact ih t h
theorem RepF.none {fvs : List (Str × V)} {fds : List (Str × D)} (r : RepF K A H fvs fds) {f : Str} (h : fds.lookup f = none) : fvs.lookup f = none := by
  induction fvs generalizing fds with
  | nil => rfl
  | cons p fvs ih => cases r with
    | @cons k v vs d' ds h1 t =>
      rw [List.lookup_cons] at h ⊢
      by_cases e : (f == k) = true
      · rw [e] at h; cases h
      · have e' : (f == k) = false := by simpa using e
        rw [e'] at h ⊢
        exact ih t h
theorem RepF.length {fvs : List (Str × V)} {fds : List (Str × D)} (r : RepF K A H fvs fds) : fvs.length = fds.length := by
  induction fvs generalizing fds with
  | nil => cases r; rfl
  | cons p fvs ih => cases r with
    | cons h t => rw [List.length_cons, List.length_cons, ih t]
theorem RepF.put {fvs : List (Str × V)} {fds : List (Str × D)} (r : RepF K A H fvs fds) (f : Str) {v : V} {d : D} (h : RepV K A H v d) : RepF K A H (putF f v fvs) (putFD f d fds) := by
  induction fvs generalizing fds with
  | nil => cases r; exact .cons h .nil
  | cons p fvs ih => cases r with
    | @cons k v' vs d' ds h1 t =>
      unfold putF putFD
      by_cases e : k = f
      · rw [if_pos e, if_pos e]; exact .cons h t
      · rw [if_neg e, if_neg e]; exact .cons h1 (ih t)
end
def ObjF (K : PySem.W.Frag) (c f : Str) : Prop := ∀ C, ClsAt K c C → Cls K C ∧ NoAttr K C f
section
variable {X : Cx} {e : Expr} {w1 w : WE} {pos : Pos}
def wFld (c f : Str) (w : WE) : WE := fun ρ Q => w ρ fun s ρ1 => match lookD ρ1 s with
  | some (.obj c' fds) => c' = c ∧ (match fds.lookup f with
    | some d => Q (.fro d) ρ1
    | none => False)
  | _ => False
theorem me_fld {c f : Str} (hf : ObjF X.K c f) (he : ME X e w1) (hb : attributeBase e f X.env (eval e X.env) = eval e X.env := by rfl) : ME X (.Attribute e f pos) (wFld c f w1) :=
  me_of (pe_fld he hb) fun B ρ σ H Q' Q R hw hq => by
    refine ⟨B, ρ, _, R, hw, fun s v ρ1 H1 post sub kp q => ?_⟩
    obtain ⟨B1, b1, b1', R1, P1⟩ := post.pend
    cases e : lookD ρ1 s with
    | none => rw [e] at q; exact q.elim
    | some d =>
      rw [e] at q
      have sd := P1.sees R1 e
      match d, q, sd with
      | .obj c' fds, ⟨hc, q'⟩, ⟨a, C, dx, fvs, hv, ha, hca, rF⟩ =>
        subst hc hv
        cases el : fds.lookup f with
        | none => rw [el] at q'; exact q'.elim
        | some d =>
          rw [el] at q'
          obtain ⟨x, hx, rx⟩ := rF.look el
          obtain ⟨c1, c2⟩ := hf C hca
          have nw : New X.K (Av B1 ρ1 σ) H1 H1 (.fro d) x := newF rx
          exact ⟨a, C, dx, fvs, x, rfl, ha, c1, c2, hx, hq _ _ ρ1 H1 (nw.post R1 b1 kp (Ex.refl H1)) sub kp q'⟩
def wSetF (i : Nat) (c f : Str) (w : WE) : WS := fun KD ρ => w ρ fun s ρ1 => frz ρ1 s fun d ρ2 => match ρ2[i]? with
  | some (.own b (.obj c' fds)) => c' = c ∧ fds.length < 1000 ∧ KD.nx (ρ2.set i (.own b (.obj c' (putFD f d fds))))
  | _ => False
theorem ms_setF {o : Expr} {i : Nat} {c f : Str} {tpos : Pos} (hf : ObjF X.K c f) (he : ME X e w) (ho : PE X o (tVar i)) (hs : swapsWith e (some (.Attribute o f tpos)) pos.line X.env = pure false := by rfl) :
    MS X (.Assign [.Attribute o f tpos] e pos) (wSetF i c f w) :=
  ms_of (ps_fld ho he hs) fun B H0 L ρ σ H KD D R F hw en => by
    refine ⟨B, ρ, _, R, hw, fun s v ρ1 H1 post sub kp q => ?_⟩
    obtain ⟨B1, b1, b1', R1, P1⟩ := post.pend
    obtain ⟨d, ρ2, q2, R2, sub2, r2⟩ := frz_ok (B0 := B) R1 P1 b1 R.btr q
    have R3 := R2.fewer b1
    have F3 := (F.step kp sub).step Kp.refl sub2
    cases e3 : ρ2[i]? with
    | none => rw [e3] at q2; exact q2.elim
    | some u =>
      rw [e3] at q2
      match u, e3, q2 with
      | .own b (.obj c' fds), e3, ⟨hc, hz, q3⟩ =>
        subst hc
        obtain ⟨a, ea, C, dx, fvs, ha, hca, rF⟩ := R3.slot i _ e3
        obtain ⟨c1, c2⟩ := hf C hca
        have r3 : RepV X.K (Av B ρ2 σ) H1 v d := r2
        have av : Av B ρ2 σ a := .inl ⟨i, b, _, e3, ea⟩
        refine ⟨_, ea, a, C, dx, fvs, rfl, ha, c1, c2, by rw [rF.length]; exact hz, ?_⟩
        have ku : Kp (fun x => x = a) H1 (L2.upd H1 a (.ins C dx (putF f v fvs))) := Kp.upd rfl fun o z => by rw [ha] at z; cases z; exact fun q => q
        obtain ⟨R6, s6, k6⟩ := R3.mut (u := .ins C dx (putF f v fvs)) (o' := .obj c' (putFD f d fds)) e3 ea ⟨C, dx, _, upd_same, hca, (rF.mono ku (fun x z => by rw [z]; exact av) fun x z => .inl z).put f (r3.mono ku (fun x z => by rw [z]; exact av) fun x z => .inl z)⟩
        exact en.nx _ _ _ R6 (F3.step k6 s6) q3
theorem guards_call {A : Around} {id : String} {args : Args} (h : A.guards = some []) (hg : (Code.builtin id args).isGuard = false) : (A.under (.builtin id args)).guards = some [] := by
  show pushGuards (Code.guards _) A.guards = some []
  rw [h]
  unfold Code.guards
  rw [hg]
  rfl
theorem run_makeG {CX : CXT} {k : Nat} {f C : Addr} {fd : FuncData} {ps : List Str} {sp : Sp} {dvs : List V} {ds : List Value} {E : XK} {pins : List (Addr × Obj)} {σ : L2.St} {H : Hp} {s : Shared} {Q : VK} {us : List Value} {vs : List V} (M : Mk X.K C f) (F : FnG X.prog X.w X.K X.mg X.base CX k f fd ps sp) (hr : Room (k + 1) X.A) (hgu : X.A.guards = some []) (hb : Binds X.K fd ps ds) (hd : Vals dvs ds)
    (hx : Passes CX X E) (I : Inv X pins σ H s) (r : Vals vs us)
    (h : ∀ x dx, H x = none → H dx = none → dx ≠ x → sp (.ref x :: (vs ++ dvs)) (L2.upd (L2.upd H dx (.own x)) x (.ins C dx [])) (fun v H2 => v = .non ∧ Q (.ref x) H2) E) :
    wpAny (model X.prog X.w) X.A (call (.ref C) us) (EP X pins σ Q) X.xe s := by
  have hq := h (s.heap.objs.size + 1) s.heap.objs.size (I.hok.fresh (Nat.le_succ _)) (I.hok.fresh (Nat.le_refl _)) (Nat.ne_of_lt (Nat.lt_succ_self _))
  have I2 := Inv.made (C := C) I
  have r2 : Vals (V.ref (s.heap.objs.size + 1) :: (vs ++ dvs)) (Value.ref (s.heap.objs.size + 1) :: (us ++ ds)) := .cons rfl (r.append hd)
  have hl : (Value.ref (s.heap.objs.size + 1) :: us ++ ds).length = ps.length := by
    have e := r2.length
    rw [F.len _ _ _ _ hq] at e
    exact e.symm
  refine wpAny_call (make_map (f := f) I.kIn M.makes M.init (beq_iff_eq.mp M.fn) (codeAny_mono (F.run _ X.stack _ _ ⟨Value.ref (s.heap.objs.size + 1) :: us, []⟩ (Value.ref (s.heap.objs.size + 1) :: (us ++ ds)) _ _ E (hr.make C us []) (guards_call hgu (by rfl))
    (I2.env0.make C us []) (hb _ (Value.ref (s.heap.objs.size + 1) :: us) I2.kIn hl) r2 hq) fun r s' hq' => ?_))
  cases r with
  | error e => exact hx pins σ _ _ e s' I2 hq'
  | ok fl =>
    cases fl with
    | ret u =>
      obtain ⟨v, H', I3, rv, ev, q3⟩ := I2.after hq'
      subst ev
      exact ⟨rv, ⟨V.ref (s.heap.objs.size + 1), H', I3, rfl, q3⟩⟩
    | next => exact False.elim hq'
    | brk => exact False.elim hq'
    | cont => exact False.elim hq'
theorem pe_makeG {CX : CXT} {k : Nat} {f C : Addr} {fd : FuncData} {ps : List Str} {sp : Sp} {dvs : List V} {ds : List Value} {E : XK} {x : Str} {p : Pos} {es : List Expr} {t : TA} (M : Mk X.K C f) (F : FnG X.prog X.w X.K X.mg X.base CX k f fd ps sp) (hr : Room (k + 1) X.A) (hgu : X.A.guards = some []) (hg : Gl X x) (hm : X.mg x = some (.ref C)) (hb : Binds X.K fd ps ds) (hd : Vals dvs ds) (hx : Passes CX X E)
    (ha : PA X (e :: es) t) (hdb : (x == ("__debug__" : Str)) = false := by decide) (he : starEach (e :: es) X.env = (false, eval e X.env) :: starEach es X.env := by rfl) (hpl : (backTo pos (starEach es X.env)).any (·.1) = false := by rfl) :
    PE X (.Call (.Name x p) (e :: es) [] pos) (tMake C sp dvs E t) := by
  refine ⟨fun pins s σ H Q I h => ?_⟩
  refine wpAny_Call_Name_kw (ld_glob I hg hm ?_ hdb)
  refine PySem.W.callWith_K (h₀ := X.base) I.ok.mod.kin M.kp (thn (ha.run pos pins s σ H _ I h) fun us s1 ⟨vs, H1, I1, r, q⟩ => ⟨I1.kIn, ?_⟩) he hpl
  exact run_makeG M F hr hgu hb hd hx I1 r q
def wMake (c : Str) (C : WE) (ws : List WE) : WE := fun ρ Q => wArgs ws ρ fun ss ρ1 => frzL ρ1 ss fun ds ρ2 => ds.length = ws.length ∧ C (.own true (.obj c []) :: ds.map .fro) fun r outs => match outs with
  | .own true o' :: _ => r = .fro .non ∧ Q (.own false o') ρ2
  | _ => False
theorem make_ok {K : PySem.W.Frag} {Cd : WE} {B : Addr → Prop} {ρ : List Slot} {σ : L2.St} {H : Hp} {c : Str} {C : Addr} {ws : List WE} {Q' : Slot → List Slot → Prop} {Q : VK} {E : XK} (hca : ClsAt K c C) (R : Rep K B ρ σ H) (hw : wMake c Cd ws ρ Q')
    (hq : ∀ s v ρ' H', Post K B ρ' σ H H' s v → Sub ρ' ρ → Kp (Own ρ σ) H H' → Q' s ρ' → Q v H') : tMake C (spOf K (ws.length + 1) Cd) [] E (taOf K ws) σ H Q := by
  refine args_frz R hw fun ds vs ρ2 H2 R2 r sub kp ⟨hl, hC⟩ x dx nx ndx hne => ?_
  have e1 : Ex H2 (L2.upd H2 dx (.own x)) := Ex.new ndx
  have nx1 : (L2.upd H2 dx (.own x)) x = none := by rw [upd_ne (Ne.symm hne)]; exact nx
  have e2 : Ex (L2.upd H2 dx (.own x)) (L2.upd (L2.upd H2 dx (.own x)) x (.ins C dx [])) := Ex.new nx1
  have ex := e1.trans e2
  have hx : (L2.upd (L2.upd H2 dx (.own x)) x (.ins C dx [])) x = some (.ins C dx []) := upd_same
  generalize hH3 : L2.upd (L2.upd H2 dx (.own x)) x (.ins C dx []) = H3 at ex hx
  rw [List.append_nil]
  have R3 : Rep K (fun y => B y ∨ y = x) ρ2 σ H3 := R2.ex ex fun y z => z.elim .inl fun z => .inr (by rw [z]; exact ⟨nx, by rw [hx]; exact nofun⟩)
  have hA : ∀ y, y = x → Av (fun y => B y ∨ y = x) ρ2 σ y := fun y z => .inr (.inr z)
  have r3 : RepL K (Av (fun y => B y ∨ y = x) ρ2 σ) H3 vs ds := r.mono (S := fun _ => False) ex.kp (fun _ z => z.elim) fun y z => z.elim (fun z => .inl (.inl z)) fun z => z.elim (fun z => .inl (.inr z)) fun z => .inr (by rw [z]; exact nx)
  have q0 : OOk K (Av (fun y => B y ∨ y = x) ρ2 σ) H3 x (.obj c []) := ⟨C, dx, [], hx, hca, .nil⟩
  obtain ⟨Ra, ow⟩ := rep_lent (fun y z => R3.av_trk z) R3.tabs q0 hA r3
  refine ⟨by simp [r.length, hl], _, _, _, Ra, hC, fun s v outs H' post so k3 h => ?_⟩
  have ka : Kp (fun y => y = x) H3 H' := k3.mono ow
  have Ro := post.rep
  have na : ¬ Own ρ2 σ x := fun z => R3.dis x z (.inr rfl)
  match outs, so, h, post, Ro with
  | .own true o' :: outs, so, ⟨hr, h'⟩, post, Ro =>
    subst hr
    have rv : RepV K _ H' v .non := post.2
    cases rv
    refine ⟨rfl, ?_⟩
    obtain ⟨a1, ea1, q1⟩ := Ro.slot 0 _ rfl
    cases ea1
    have hs : ∀ y, y = x → Av (fun y => B y ∨ y = x) ρ2 σ y := hA
    have rep : Rep K (fun y => B y ∨ y = x) ρ2 σ H' := by
      refine ⟨R3.len, fun j s e => ?_, R3.inj, fun y z => ka.trk y (R3.btr y z), R3.dis, ka.tab R3.tabs⟩
      have w := R3.slot j s e
      cases s with
      | nil => trivial
      | fro d => obtain ⟨v, e1, q⟩ := w; exact ⟨v, e1, q.mono ka hs fun y z => .inl z⟩
      | own c p => obtain ⟨y, e1, q⟩ := w; exact ⟨y, e1, q.mono ka hs (fun y z => .inl z) fun z' => na (by rw [← z']; exact ⟨j, c, p, e, e1⟩)⟩
      | var k => exact w
    have k' : Kp (Own ρ σ) H H' := by
      have k1 : Kp (Own ρ σ) H H3 := kp.trans ex.kp fun _ z => z
      exact ⟨⟨fun y o z m t => ka.keep y o (k1.keep y o z m t) (fun e => (by rw [e] at z; rw [kp.back nx] at z; cases z)) t, fun y o z m => ka.imm y o (k1.imm y o z m) m⟩, fun y z => ka.trk y (k1.trk y z), fun t => ka.tab (k1.tab t)⟩
    refine hq _ _ ρ2 H' (postO (b := false) (kp.back nx) (fun z => R2.btr x z nx) rep (q1.av fun y z => ?_)) sub k' h'
    by_cases hy : y = x
    · subst hy; exact .inl ⟨0, true, o', rfl, rfl⟩
    · exact .inr ⟨z, hy⟩
structure Maker (P : Program) (w : World) (K : PySem.W.Frag) (mg : Str → Option Value) (base : Heap) (k : Nat) (c : Str) (ps : List Str) (Cd : WE) : Prop where
  ex : ∃ (C f : Addr) (fd : FuncData), mg c = some (.ref C) ∧ ClsAt K c C ∧ Mk K C f ∧ FnG P w K mg base CX0 k f fd ps (spOf K ps.length Cd) ∧ Binds K fd ps []
end
end Dl
namespace Dl
open PySem L2 PySem.Spec PyProof.Rows PySem.W
variable [TabN]
def isObj (c : Str) : D → Prop
  | .obj c' _ => c' = c
  | _ => False
def back1 (Q : Dl.Slot → List Dl.Slot → Prop) (ρ : List Dl.Slot) : Dl.Slot → List Dl.Slot → Prop := fun r _ => match r with
  | .fro d => Q (.fro d) ρ
  | .own _ o => Q (.own false o) ρ
  | _ => False
theorem sp_ok {K : PySem.W.Frag} {Cd : WE} {B : Addr → Prop} {ρ ρ2 : List Dl.Slot} {σ : L2.St} {H H2 : Hp} {vs : List V} {ds : List D} {Q' : Dl.Slot → List Dl.Slot → Prop} {Q : VK} {E : XK} (R2 : Rep K B ρ2 σ H2) (r : RepL K (Av B ρ2 σ) H2 vs ds) (sub : Sub ρ2 ρ) (kp : Kp (Own ρ σ) H H2)
    (hC : Cd (ds.map .fro) (back1 Q' ρ2)) (hq : ∀ s v ρ' H', Post K B ρ' σ H H' s v → Sub ρ' ρ → Kp (Own ρ σ) H H' → Q' s ρ' → Q v H') : spOf K ds.length Cd vs H2 Q E := by
  refine ⟨r.length, Av B ρ2 σ, ds.map .fro, _, repL_rep (fun a z => R2.av_trk z) R2.tabs r, hC, fun s v ρ' H' post _ k3 h => ?_⟩
  have ex : Kp (fun _ => False) H2 H' := k3.mono fun a ⟨i, b, o', e1, _⟩ => by
    rw [List.getElem?_map] at e1
    cases q : ds[i]? with
    | none => rw [q] at e1; cases e1
    | some d => rw [q] at e1; cases e1
  have k' : Kp (Own ρ σ) H H' := kp.trans (ex.mono fun _ z => z.elim) fun _ z => z
  match s, post, h with
  | .fro d, post, h => exact hq _ _ ρ2 H' (postF (R2.same ex fun a z => .inl z) (post.2.av fun a z => .inr z)) sub k' h
  | .own b o, ⟨a, hv, n, nb, R', q⟩, h =>
    subst hv
    refine hq _ _ ρ2 H' (postO (b := false) (kp.back n) (fun z => R2.btr a z n) (R2.same ex fun x z => z.elim .inl fun z => .inr ⟨by rw [z]; exact n, by rw [z]; exact q.trk⟩) (q.av fun x z => ?_)) sub k' h
    rcases z with z | z | z
    · exact .inr (.inl (.inl z))
    · exact .inr (.inl (.inr z))
    · exact .inr (.inr z)
theorem isObj_at {K : PySem.W.Frag} {A : Addr → Prop} {H : Hp} {c : Str} {d : D} {v : V} (h : isObj c d) (r : RepV K A H v d) : ∃ a C dx fvs, v = .ref a ∧ H a = some (.ins C dx fvs) ∧ ClsAt K c C := by
  cases r with
  | obj ha _ hc _ => cases (show _ = c from h); exact ⟨_, _, _, _, rfl, ha, hc⟩
  | _ => exact h.elim
theorem clsAt_inj {K : PySem.W.Frag} {c : Str} {C C' : Addr} (h : ClsAt K c C) (h' : ClsAt K c C') : C = C' := by
  unfold ClsAt at h h'
  rw [h] at h'
  cases h'; rfl
section
variable {X : Cx} {a b e : Expr} {w1 w2 : WE} {pos : Pos}
structure MethG (P : Program) (w : World) (K : PySem.W.Frag) (mg : Str → Option Value) (base : Heap) (k : Nat) (c m : Str) (ps : List Str) (Cd : WE) : Prop where
  ex : ∀ C, ClsAt K c C → ∃ (f : Addr) (fd : FuncData), findIn K (.ref C) m = some (some (.ref f)) ∧ isFn K (.ref f) = true ∧ selfFirst K C = true ∧ FnG P w K mg base CX0 k f fd ps (spOf K ps.length Cd) ∧ Binds K fd ps []
end
end Dl
namespace Dl
open PySem L2 PySem.Spec PyProof.Rows PySem.W
variable [TabN]
section
variable {X : Cx} {a b e : Expr} {w1 w2 : WE} {pos : Pos}
theorem Maker.make {k : Nat} {c : Str} {ps : List Str} {Cd : WE} {es : List Expr} {ws : List WE} {p : Pos} (m : Maker X.prog X.w X.K X.mg X.base k c ps Cd) (hr : Room (k + 1) X.A) (hgu : X.A.guards = some []) (hg : Gl X c) (ha : MA X (e :: es) ws) (hn : ws.length + 1 = ps.length := by rfl) (hdb : (c == ("__debug__" : Str)) = false := by decide)
    (he : starEach (e :: es) X.env = (false, eval e X.env) :: starEach es X.env := by rfl) (hpl : (backTo pos (starEach es X.env)).any (·.1) = false := by rfl) : ME X (.Call (.Name c p) (e :: es) [] pos) (wMake c Cd ws) := by
  obtain ⟨C, f, fd, hm, hca, M, F, hb⟩ := m.ex
  rw [← hn] at F
  exact me_of (pe_makeG (E := E0) M F hr hgu hg hm hb .nil (fun _ _ _ _ _ _ _ h => h.elim) ha hdb he hpl) fun B ρ σ H Q' Q R hw hq => make_ok hca R hw hq
def wUnM (c : Str) (Cd : WE) (w1 : WE) : WE := fun ρ Q => w1 ρ fun s1 ρ1 => frz ρ1 s1 fun d ρ2 => isObj c d ∧ Cd ([d].map .fro) (back1 Q ρ2)
structure PropG (P : Program) (w : World) (K : PySem.W.Frag) (mg : Str → Option Value) (base : Heap) (k : Nat) (c m : Str) (Cd : WE) : Prop where
  ex : ∀ C, ClsAt K c C → ∃ (p g : Addr) (fd : FuncData) (ps : List Str), Cls K C ∧ PropOf K C m p g ∧ FnG P w K mg base CX0 k g fd ps (spOf K 1 Cd) ∧ Binds K fd ps []
theorem getprop_okG {CX : CXT} {k : Nat} {x C dx p g : Addr} {fs : List (Str × V)} {fd : FuncData} {ps : List Str} {sp : Sp} {E : XK} {f : Str} {pins : List (Addr × Obj)} {σ : L2.St} {H : Hp} {s : Shared} {Q : VK} {b : Bool} {E' : Value → Shared → Prop} (I : Inv X pins σ H s) (ea : H x = some (.ins C dx fs)) (c : Cls X.K C) (hp : PropOf X.K C f p g)
    (F : FnG X.prog X.w X.K X.mg X.base CX k g fd ps sp) (hr : Room (k + 1) X.A) (hgu : X.A.guards = some []) (hb : Binds X.K fd ps []) (hx : Passes CX X.nox E) (h : sp [.ref x] H Q E) :
    wpAny (model X.prog X.w) X.A (getAttr (.ref x) f b) (EP X pins σ Q) E' s := by
  obtain ⟨mA, O, _, _, _, _⟩ := ins_get I.hok ea
  obtain ⟨od, J, _⟩ := O.look
  obtain ⟨rest, hrec⟩ := hp.rec_
  have I1 := I.tok (s.toks + 1)
  have hl : ([Value.ref x] ++ []).length = ps.length := by
    rw [← F.len _ _ _ _ h]; rfl
  have hc : (PySem.W.clsIn X.K C).isSome = true := by
    obtain ⟨cd, hc, _⟩ := PySem.W.any_some c.hd
    rw [hc]
    rfl
  refine PySem.W.get_bind I.kIn J (PySem.W.plainGet_of (c.get f)).1 (PySem.W.findObj_data hc hp.at_ hp.get hp.tak) (PySem.W.plainGet_of (c.get f)).2 (wpAny_call (PySem.W.prop_get (s := { s with toks := s.toks + 1 }) I.kIn hrec ?_))
  refine codeAny_mono (F.run X.A.in1 X.stack { s with toks := s.toks + 1 } H ⟨[.ref x], []⟩ [.ref x] [.ref x] Q E hr.in1 hgu I1.env0.in1 (hb _ [.ref x] I1.kIn hl) (.cons rfl .nil) h) fun r s' hq => ?_
  cases r with
  | error er => exact False.elim (hx pins σ H { s with toks := s.toks + 1 } er s' (I1.wish _) hq)
  | ok fl =>
    cases fl with
    | ret u =>
      obtain ⟨v, H', I3, rv, q3⟩ := I1.after hq
      show wpAny _ _ (handedOut u) _ _ _
      rw [PySem.W.handedOut_of (handed_of rv)]
      exact wpAny_pure ⟨v, H', I3, rv, q3⟩
    | next => exact False.elim hq
    | brk => exact False.elim hq
    | cont => exact False.elim hq
theorem me_prop {c f : Str} {Cd : WE} {k : Nat} (m : PropG X.prog X.w X.K X.mg X.base k c f Cd) (hr : Room (k + 1) X.A) (hgu : X.A.guards = some []) (he : ME X e w1) (hab : attributeBase e f X.env (eval e X.env) = eval e X.env := by rfl) : ME X (.Attribute e f pos) (wUnM c Cd w1) := by
  have pe : PE X (.Attribute e f pos) (fun σ H Q => tOf X.K w1 σ H fun x H1 => ∃ p C dx fx, x = .ref p ∧ H1 p = some (.ins C dx fx) ∧ ClsAt X.K c C ∧ spOf X.K 1 Cd [x] H1 Q E0) := by
    refine ⟨fun pins s σ H Q I h => ?_⟩
    refine attr_of hab (thn (PE.run he pins s σ H _ I h) fun u s1 ⟨x, H1, I1, rx, p, C, dx, fx, ex, ea, hc, q⟩ => ?_)
    subst ex
    obtain rfl : u = Value.ref p := rx
    obtain ⟨pp, g, fd, ps, c1, hp, F, hb⟩ := m.ex C hc
    exact getprop_okG (E := E0) I1 ea c1 hp F hr hgu hb (fun _ _ _ _ _ _ _ h => h.elim) q
  exact me_of pe fun B ρ σ H Q' Q R hw hq => by
    refine ⟨B, ρ, _, R, hw, fun s v ρ1 H1 post sub kp q => ?_⟩
    obtain ⟨B1, b1, b1', R1, P1⟩ := post.pend
    obtain ⟨d, ρ2, q2, R2, sub2, r2⟩ := frz_ok (B0 := B) R1 P1 b1 R.btr q
    obtain ⟨h1, hC⟩ := q2
    obtain ⟨p, C, dx, fx, e1, hx, hc⟩ := isObj_at h1 r2
    exact ⟨p, C, dx, fx, e1, hx, hc, sp_ok (ds := [d]) (R2.fewer b1) (.cons r2 .nil) (sub.trans sub2) kp hC hq⟩
end
end Dl
namespace Dl
open PySem L2 PySem.Spec PyProof.Rows
variable [TabN]
def dcBody (t : WT) (wk wv : WE) (ρ : List Slot) (vs : List Nat) (k1 : Key → D → List Slot → Prop) (k0 : List Slot → Prop) : List Slot → Prop := fun ρ2 => t ρ2 fun b ρ3 =>
  if b = true then wk ρ3 fun sk ρ4 => wv ρ4 fun sv ρ5 => frz ρ5 sv fun x ρ6 => (match sk with
    | .fro dk => (match kOfD dk with
      | some k => k1 k x (back ρ ρ6 vs)
      | none => False)
    | _ => False) else k0 (back ρ ρ3 vs)
def dcl (g : WG) (t : WT) (wk wv : WE) (vs : List Nat) (Q : List (Key × D) → List Slot → Prop) : List D → List Slot → List (Key × D) → Prop
  | [], ρ, acc => Q acc ρ
  | d :: ds, ρ, acc => g d (wipeD ρ vs) (dcBody t wk wv ρ vs (fun k x ρ5 => acc.length < sizeLine ∧ dcl g t wk wv vs Q ds ρ5 (putD acc k x)) fun ρ3 => dcl g t wk wv vs Q ds ρ3 acc)
def wDc (wi : WI) (g : WG) (t : WT) (wk wv : WE) (vs : List Nat) : WE := fun ρ Q => wi ρ fun ds ρ1 => clean ρ1 vs ∧ dcl g t wk wv vs (fun acc ρ2 => Q (.own false (.dct acc)) ρ2) ds ρ1 []
structure AccD (K : PySem.W.Frag) (B : Addr → Prop) (D : Addr) (ρ : List Slot) (σ : L2.St) (H : Hp) (acc : List (Key × Dl.D)) : Prop where
  rep : Rep K B ρ σ H
  bd : B D
  at' : ∃ xs, H D = some (.dK xs) ∧ RepK K (Av B ρ σ) H xs acc
theorem AccD.step {K : PySem.W.Frag} {B : Addr → Prop} {D : Addr} {ρ ρ' : List Slot} {σ : L2.St} {H H' : Hp} {acc : List (Key × Dl.D)} (A : AccD K B D ρ σ H acc) (R : Rep K B ρ' σ H') (k : Kp (Own ρ σ) H H') (sub : ∀ a, Own ρ' σ a → Own ρ σ a) : AccD K B D ρ' σ H' acc := by
  obtain ⟨xs, e, r⟩ := A.at'
  exact ⟨R, A.bd, xs, k.keep _ _ e (fun z => A.rep.dis D z A.bd), r.mono k (fun a z => .inl z) fun a z => .inl (z.elim (fun z => .inl (sub a z)) .inr)⟩
theorem AccD.push {K : PySem.W.Frag} {B : Addr → Prop} {D : Addr} {ρ : List Slot} {σ : L2.St} {H : Hp} {acc : List (Key × Dl.D)} {k : Key} {y : V} {d : Dl.D} (A : AccD K B D ρ σ H acc) (ry : RepV K (Av B ρ σ) H y d) :
    ∃ xs, H D = some (.dK xs) ∧ xs.length = acc.length ∧ AccD K B D ρ σ (L2.upd H D (.dK (putK xs k y))) (putD acc k d) := by
  obtain ⟨xs, e, r⟩ := A.at'
  have kp : Kp (fun x => x = D) H (L2.upd H D (.dK (putK xs k y))) := Kp.upd rfl fun o z => by rw [e] at z; cases z; exact fun q => q
  have hs : ∀ x, x = D → Av B ρ σ x := fun x z => by rw [z]; exact .inr A.bd
  exact ⟨xs, e, r.length, A.rep.updD A.bd e, A.bd, _, upd_same, (r.mono kp hs fun x z => .inl z).put k (ry.mono kp hs fun x z => .inl z)⟩
section
variable {X : Cx} {kx vx tg iter : Expr} {ifs : List Expr} {scope : Scope} {own : List (Str × Nat)} {pos spos : Pos} {wi : WI} {g : WG} {js : List Nat} {t : WT} {wk wv : WE}
def gIxK : D → D → (Slot → Prop) → Prop
  | .dct kds, dk, f => ∃ k d, kOfD dk = some k ∧ valD kds k = some d ∧ f (.fro d)
  | _, _, _ => False
def gInK : D → D → (Slot → Prop) → Prop
  | dk, .dct kds, f => ∃ k, kOfD dk = some k ∧ f (.fro (.bl (valD kds k).isSome))
  | _, _, _ => False
def gNotInK : D → D → (Slot → Prop) → Prop
  | dk, .dct kds, f => ∃ k, kOfD dk = some k ∧ f (.fro (.bl (!(valD kds k).isSome)))
  | _, _, _ => False
end
end Dl
namespace Dl
open PySem L2 PySem.Spec PyProof.Rows
variable [TabN]
section
variable {X : Cx}
def gStr : List D → (Dl.Slot → Prop) → Prop
  | [.int i], k => i.natAbs.log2 < 1920 ∧ k (.fro (.str (toString i)))
  | _, _ => False
theorem cd_str : CallD X (.type "str") gStr := callD_of fun pins s σ H vs us Q A ds k I r sl ht hg hq => by
  match ds, hg, sl with
  | [.int i], ⟨h1, hg⟩, sl =>
    obtain ⟨v, rfl, sv⟩ := seesL1 sl
    cases sees_int sv
    exact call_str_int pins s σ H _ us Q I r ⟨i, rfl, h1, hq _ _ H (Ex.refl H) (newF (.str _)) hg⟩
theorem rep_texts {K : PySem.W.Frag} {A : Addr → Prop} {H : Hp} (xs : List Str) : ∀ {vs : List V}, RepL K A H vs (xs.map .str) → vs = xs.map V.str := by
  induction xs with
  | nil => intro vs r; cases r; rfl
  | cons x xs ih =>
    intro vs r
    rw [List.map_cons] at r
    cases r with
    | cons h t =>
      have h' : RepV K A H _ (.str x) := h
      cases h'
      rw [ih t]; rfl
def wJoin (w1 w2 : WE) : WE := fun ρ Q => w1 ρ fun s ρ1 => match s with
  | .fro (.str a) => w2 ρ1 fun s2 ρ2 => (match lookD ρ2 s2 with
    | some (.lst ds) => ∃ ys : List Str, ds = ys.map .str ∧ (ys.map (·.length)).sum + ys.length * a.length ≤ 16777216 ∧ Q (.fro (.str (Txt.join a ys))) ρ2
    | _ => False)
  | _ => False
theorem me_join {o e : Expr} {w1 w2 : WE} {apos pos : Pos} (ho : ME X o w1) (he : ME X e w2) (hs : starEach [e] X.env = [(false, eval e X.env)] := by rfl) (hbase : attributeBase o "join" X.env (eval o X.env) = eval o X.env := by rfl) (hline : (apos.endLine == pos.line) = true := by rfl) :
    ME X (.Call (.Attribute o "join" apos) [e] [] pos) (wJoin w1 w2) :=
  me_of (pe_join ho he hs hbase hline) fun B ρ σ H Q' Q R hw hq => by
    refine ⟨B, ρ, _, R, hw, fun s x ρ1 H1 post sub kp q => ?_⟩
    match s, post, q with
    | .fro (.str a), ⟨R1, r1⟩, q =>
      have r1' : RepV X.K (Av B ρ1 σ) H1 x (.str a) := r1
      cases r1'
      refine ⟨⟨a, rfl⟩, B, ρ1, _, R1, q, fun s2 y ρ2 H2 post2 sub2 kp2 q2 => ?_⟩
      obtain ⟨B2, b2, b2', R2, P2⟩ := post2.pend
      cases e : lookD ρ2 s2 with
      | none => rw [e] at q2; exact q2.elim
      | some d =>
        rw [e] at q2
        have sd := P2.sees R2 e
        match d, q2, sd with
        | .lst ds, ⟨ys, hds, hz, hQ⟩, ⟨p, xs, hv, hp, rl⟩ =>
          subst hds hv
          rw [rep_texts ys rl] at hp
          have kk : Kp (Own ρ σ) H H2 := kp.trans kp2 fun x z => sub.own x z
          have nw : New X.K (Av B2 ρ2 σ) H2 H2 (.fro (.str (Txt.join a ys))) (.str (Txt.join a ys)) := newF (.str _)
          exact ⟨a, p, ys, rfl, rfl, .inl (SqL.of hp), hz, hq _ _ ρ2 H2 (nw.post R2 b2 kk (Ex.refl H2)) (sub.trans sub2) kk hQ⟩
end
end Dl
namespace Dl
open PySem L2 PySem.Spec PyProof.Rows
variable [TabN]
section
variable {X : Cx} {a b : Expr} {pos : Pos} {w1 w2 : WE}
def wDctK (wk wv : WE) : WE := fun ρ Q => wk ρ fun sk ρ1 => wv ρ1 fun sv ρ2 => frz ρ2 sv fun d ρ3 => match sk with
  | .fro dk => (match kOfD dk with
    | some k => Q (.own false (.dct [(k, d)])) ρ3
    | none => False)
  | _ => False
end
end Dl
namespace Dl
open PySem L2 PySem.Spec PyProof.Rows
variable [TabN]
end Dl
namespace Dl
open PySem L2 PySem.Spec PyProof.Rows
variable [TabN]
section
variable {P : Program} {w : World} {A : Around} {R : Result → Shared → Prop} {s : Shared} {kx vx ta ia tb ib : Expr} {sc : Scope} {ps : Pos} {it : Value} {dd : Addr} {env : Env}
end
end Dl
namespace Dl
open PySem L2 PySem.Spec PyProof.Rows
variable [TabN]
section
variable {X : Cx} {kx vx ta ia tb ib : Expr} {sc : Scope} {own : List (Str × Nat)} {vs1 : List Nat} {ps ps' : Pos} {wi wi1 : TI} {g g1 : TG} {tk tv : TE}
end
end Dl
namespace Dl
open PySem L2 PySem.Spec PyProof.Rows
variable [TabN]
def dcl2 (g : WG) (wi1 : WI) (g1 : WG) (wk wv : WE) (vs vs1 : List Nat) (Q : List (Key × D) → List Slot → Prop) : List D → List Slot → List (Key × D) → Prop
  | [], ρ, acc => Q acc ρ
  | d :: ds, ρ, acc => g d (wipeD ρ vs) fun ρ3 => wi1 ρ3 fun es ρ4 => clean ρ4 vs1 ∧ dcl g1 wYes wk wv vs1 (fun acc' ρ5 => dcl2 g wi1 g1 wk wv vs vs1 Q ds (back ρ ρ5 vs) acc') es ρ4 acc
def wDc2K (i : Nat) (g : WG) (wi1 : WI) (g1 : WG) (wk wv : WE) (vs vs1 : List Nat) : WE := fun ρ Q => match ρ[i]? with
  | some (.fro (.dct kds)) => clean ρ vs ∧ dcl2 g wi1 g1 wk wv vs vs1 (fun acc ρ2 => Q (.own false (.dct acc)) ρ2) (kds.map fun kv => keyD kv.1) ρ []
  | _ => False
section
variable {X : Cx} {kx vx ta ia tb ib : Expr} {sc : Scope} {own : List (Str × Nat)} {ps : Pos} {wi wi1 : WI} {g g1 : WG} {js js1 vs1 : List Nat} {wk wv : WE}
end
def wNevE : WE := fun _ _ => False
theorem me_never {X : Cx} {e : Expr} : ME X e wNevE := ⟨fun pins s σ H Q I ⟨_, _, _, _, h, _⟩ => h.elim⟩
end Dl
namespace Dl
open PySem L2 PySem.Spec PyProof.Rows
variable [TabN]
theorem pendL_app {K : PySem.W.Frag} {H0 : Hp} {B : Addr → Prop} {ρ : List Slot} {σ : L2.St} {H : Hp} : ∀ {ss zs : List Slot} {vs us : List V}, PendL K H0 B ρ σ H ss vs → PendL K H0 B ρ σ H zs us → PendL K H0 B ρ σ H (ss ++ zs) (vs ++ us)
  | [], _, [], _, _, h => h
  | _ :: _, _, _ :: _, _, ⟨h1, h2⟩, h => ⟨h1, pendL_app h2 h⟩
theorem pendL_start {K : PySem.W.Frag} {H0 H1 : Hp} {S : Addr → Prop} {B : Addr → Prop} {ρ : List Slot} {σ : L2.St} {H : Hp} (k : Kp S H0 H1) : ∀ {ss : List Slot} {vs : List V}, PendL K H1 B ρ σ H ss vs → PendL K H0 B ρ σ H ss vs
  | [], [], h => h
  | _ :: _, _ :: _, ⟨h1, h2⟩ => ⟨h1.start k, pendL_start k h2⟩
theorem pendL_len {K : PySem.W.Frag} {H0 : Hp} {B : Addr → Prop} {ρ : List Slot} {σ : L2.St} {H : Hp} : ∀ {ss : List Slot} {vs : List V}, PendL K H0 B ρ σ H ss vs → ss.length = vs.length
  | [], [], _ => rfl
  | _ :: _, _ :: _, ⟨_, h⟩ => by rw [List.length_cons, List.length_cons, pendL_len h]
def wCallPK (C : WE) (ws us : List WE) : WE := fun ρ Q => wArgs ws ρ fun ss ρ1 => ss.length = ws.length ∧ wArgs us ρ1 fun zs ρ2 => zs.length = us.length ∧ frzL ρ2 (ss ++ zs) fun ds ρ3 => ds.length = ws.length + us.length ∧ C (ds.map .fro) (back1 Q ρ3)
theorem callPK_ok {K : PySem.W.Frag} {C : WE} {B : Addr → Prop} {ρ : List Slot} {σ : L2.St} {H : Hp} {ws us : List WE} {Q' : Slot → List Slot → Prop} {Q : VK} {E : XK} (R : Rep K B ρ σ H) (hw : wCallPK C ws us ρ Q') (hq : ∀ s v ρ' H', Post K B ρ' σ H H' s v → Sub ρ' ρ → Kp (Own ρ σ) H H' → Q' s ρ' → Q v H') :
    taOf K ws σ H fun vs H1 => vs.length = ws.length ∧ taOf K us σ H1 fun zs H2 => zs.length = us.length ∧ spOf K (ws.length + us.length) C (vs ++ zs) H2 Q E := by
  refine ⟨B, ρ, _, R, hw, fun ss vs ρ1 B1 H1 b1 b1' R1 P1 sub kp ⟨l1, hw1⟩ => ⟨by rw [← pendL_len P1]; exact l1, B1, ρ1, _, R1, hw1, fun zs xs ρ2 B2 H2 b2 b2' R2 P2 sub2 kp2 ⟨l2, q⟩ => ⟨by rw [← pendL_len P2]; exact l2, ?_⟩⟩⟩
  have PP := pendL_app (P1.step R1 kp2 sub2 b2 b2') (pendL_start kp P2)
  have bb : ∀ a, B a → B2 a := fun a z => b2 a (b1 a z)
  obtain ⟨ds, ρ3, ⟨hl, hC⟩, R3, s3, r3⟩ := frzL_ok (B0 := B) (H0 := H) bb R.btr R2 PP q
  rw [← hl]
  exact sp_ok (R3.fewer bb) r3 ((sub.trans sub2).trans s3) (kp.trans kp2 fun a z => sub.own a z) hC hq
structure CalleeN (P : Program) (w : World) (K : PySem.W.Frag) (mg : Str → Option Value) (base : Heap) (k : Nat) (x : Str) (ps : List Str) (n : Nat) (ks : List Str) (C : WE) : Prop where
  ex : ∃ (f : Addr) (fd : FuncData), FnG P w K mg base CX0 k f fd ps (spOf K ps.length C) ∧ mg x = some (.ref f) ∧ PySem.W.keepIn K (.ref f) = true ∧ ∀ (s : Shared) (us ws : List Value), K.In s.heap → us.length = n → ws.length = ks.length → BindsTo s fd ⟨us, ks.zip ws⟩ (ps.zip (us ++ ws))
theorem CalleeN.callN {X : Cx} {k n : Nat} {x : Str} {ps ks : List Str} {C : WE} {p pos : Pos} {e : Expr} {es : List Expr} {kws : List Keyword} {ws us : List WE} (c : CalleeN X.prog X.w X.K X.mg X.base k x ps n ks C) (hr : Room k X.A) (hgu : X.A.guards = some []) (hg : Gl X x) (ha : MA X (e :: es) ws) (hkw : MK X kws us)
    (hn : ws.length = n := by rfl) (hn1 : us.length = ks.length := by rfl) (hn2 : (ws ++ us).length = ps.length := by rfl) (hall : (backToKw pos (keywordEach kws X.env)).all (·.1.isSome) = true := by rfl) (hks : (backToKw pos (keywordEach kws X.env)).filterMap (·.1) = ks := by rfl)
    (hdb : (x == ("__debug__" : Str)) = false := by decide) (he : starEach (e :: es) X.env = (false, eval e X.env) :: starEach es X.env := by rfl) (hpl : ((backTo pos (starEach (e :: es) X.env)).any (·.1) || (backToKw pos (keywordEach kws X.env)).any (·.1.isNone)) = false := by rfl) :
    ME X (.Call (.Name x p) (e :: es) kws pos) (wCallPK C ws us) := by
  obtain ⟨f, fd, F, hm, hk, hb⟩ := c.ex
  rw [← hn2, List.length_append] at F
  refine ⟨fun pins s σ H Q I ⟨B, ρ, Q', R, hw, hq⟩ => ?_⟩
  refine wpAny_Call_Name_kw (ld_glob I hg hm ?_ hdb)
  refine PySem.W.callWith_KW (h₀ := X.base) I.ok.mod.kin hk hall (thn (PA.run ha pos pins s σ H _ I (callPK_ok (E := E0) R hw hq)) fun vu s1 ⟨vs, H1, I1, r, l1, q⟩ => ?_) hpl he
  refine thn (PK.run hkw pos pins s1 σ H1 _ I1 q) fun zu s2 ⟨zs, H2, I2, rz, l2, q2⟩ => ⟨I2.kIn, ?_⟩
  rw [hks]
  have e1 : vu.length = n := by rw [← r.length, l1, hn]
  have e2 : zu.length = ks.length := by rw [← rz.length, l2, hn1]
  refine wpAny_call (codeAny_mono (F.run X.A X.stack s2 H2 ⟨vu, ks.zip zu⟩ (vu ++ zu) (vs ++ zs) Q E0 hr hgu I2.env0 (hb s2 vu zu I2.kIn e1 e2) (r.append rz) q2) fun res s' hq => ?_)
  match res, hq with
  | .ok (.ret u), hq => exact I2.after hq
  | .ok .next, hq => exact hq.elim
  | .ok .brk, hq => exact hq.elim
  | .ok .cont, hq => exact hq.elim
  | .error e, hq => exact hq.elim
end Dl
namespace Dl
open PySem L2 PySem.Spec PyProof.Rows
variable [TabN]
section
variable {X : Cx} {e : Expr} {w1 : WE}
end
section
variable {X : Cx} {e : Expr} {w1 : WE}
end
end Dl
namespace Dl
open PySem L2 PySem.Spec PyProof.Rows
variable [TabN]
end Dl
namespace Dl
open PySem L2 PySem.Spec PyProof.Rows
variable [TabN]
section
variable {X : Cx} {CX : CXT} {k : Nat} {f : Addr} {fd : FuncData} {ps : List Str} {sp : Sp} {dvs : List V} {dus : List Value} {E : XK} {x : Str} {p pos : Pos} {e : Expr} {es : List Expr} {t : TA}
end
end Dl
namespace Dl
open PySem L2 PySem.Spec PyProof.Rows
variable [TabN]
def IsPairS (h : Heap) (v : Value) (x : Str) (y : Int) : Prop := ∃ a o t u n, v = .ref a ∧ h.get? a = some o ∧ o.cls = .type "tuple" ∧ o.data = .seq #[.str x t, .int y u] n
theorem IsPairS.keeps {h h' : Heap} {v : Value} {x : Str} {y : Int} (p : IsPairS h v x y) (k : ∀ b o, h.get? b = some o → o.cls = .type "tuple" → h'.get? b = some o) : IsPairS h' v x y := by
  obtain ⟨a, o, t, u, n, e, ho, hc, hd⟩ := p
  exact ⟨a, o, t, u, n, e, k _ _ ho hc, hc, hd⟩
section
variable {prog : Program} {w : World} {A : Around} {E : Value → Shared → Prop} {s : Shared}
end
section
variable {X : Cx}
end
end Dl
namespace Zl
open PySem PySem.Spec PyProof.Rows
structure ZSt (z TI TO i1 i2 l1 l2 S : Addr) (xs ys : Array Value) (i : Nat) (h : Heap) : Prop where
  tI : IsPair h TI (.ref i1) (.ref i2)
  h1 : h.IsListIter i1 l1 i
  h2 : h.IsListIter i2 l2 i
  l1 : h.IsList l1 xs
  l2 : h.IsList l2 ys
  hz : (IsZip h z TI TO .none ∧ ∃ a b, IsPair h TO a b) ∨ ∃ T f oT, IsZipHeld h z TI TO T f ∧ h.get? T = some oT ∧ T ≠ z ∧ T ≠ i1 ∧ T ≠ i2 ∧ T ≠ S
structure ZG (xs ys : Array Value) (lo : Addr) (h : Heap) (as : List Addr) : Prop where
  rise : as.Pairwise (· < ·)
  above : ∀ a ∈ as, lo < a
  pairs : ∀ (j : Nat) (a : Addr), as[j]? = some a → ∃ x y, xs[j]? = some x ∧ ys[j]? = some y ∧ h.get? a = some { cls := .type "tuple", data := .seq #[x, y] }
theorem ZG.there {xs ys : Array Value} {lo : Addr} {h : Heap} {as : List Addr} (g : ZG xs ys lo h as) {a : Addr} (ha : a ∈ as) : a < h.objs.size := by
  obtain ⟨j, hj⟩ := List.mem_iff_getElem?.mp ha
  obtain ⟨_, _, _, _, e⟩ := g.pairs j a hj
  exact Heap.lt_size e
structure Off (S z TI TO i1 i2 l1 l2 : Addr) : Prop where
  z : z < S
  TI : TI < S
  TO : TO < S
  i1 : i1 < S
  i2 : i2 < S
  l1 : l1 < S
  l2 : l2 < S
section
variable {prog : Program} {w : World} {A : Around} {E : Value → Shared → Prop} {s : Shared} {z TI TO i1 i2 l1 l2 S : Addr} {xs ys : Array Value}
theorem ZSt.frame {i : Nat} {h h' : Heap} (o : Off S z TI TO i1 i2 l1 l2) (st : ZSt z TI TO i1 i2 l1 l2 S xs ys i h) (hk : ∀ b ob, b ≠ S → h.get? b = some ob → h'.get? b = some ob) : ZSt z TI TO i1 i2 l1 l2 S xs ys i h' := by
  obtain ⟨hTI, h1, h2, hl1, hl2, hz⟩ := st
  refine ⟨hk _ _ (Nat.ne_of_lt o.TI) hTI, h1.at fun ob e => hk _ ob (Nat.ne_of_lt o.i1) e, h2.at fun ob e => hk _ ob (Nat.ne_of_lt o.i2) e, hl1.at fun ob e => hk _ ob (Nat.ne_of_lt o.l1) e, hl2.at fun ob e => hk _ ob (Nat.ne_of_lt o.l2) e, ?_⟩
  rcases hz with ⟨hz, a, b, hTO⟩ | ⟨T, f, oT, hz, hT, r1, r2, r3, r4⟩
  · exact .inl ⟨hk _ _ (Nat.ne_of_lt o.z) hz, a, b, hk _ _ (Nat.ne_of_lt o.TO) hTO⟩
  · exact .inr ⟨T, f, oT, hk _ _ (Nat.ne_of_lt o.z) hz, hk _ _ r4 hT, r1, r2, r3, r4⟩
variable {R : Result → Shared → Prop}
theorem ZSt.zip {i : Nat} {h : Heap} (st : ZSt z TI TO i1 i2 l1 l2 S xs ys i h) : ∃ v f, h.get? z = some { cls := .type "zip", dict := none, data := .fields #[v, .bool f, .bool false, .ref TI, .ref TO], slots := #[] } := by
  rcases st.hz with ⟨hz, _⟩ | ⟨T, f, oT, hz, _⟩
  · exact ⟨_, _, hz⟩
  · exact ⟨_, _, hz⟩
end
end Zl
namespace Zl
open PySem PySem.Spec PyProof.Rows L2
section
variable {X : Cx}
end
end Zl
namespace Dl
open PySem L2
variable [TabN]
end Dl
namespace Dl
open PySem PySem.Spec PyProof.Rows L2
variable [TabN]
end Dl
set_option maxHeartbeats 1000000
namespace Zm
open PySem PySem.Spec PyProof.Rows L2
def SIt (b : Bool) (h : Heap) (it l : Addr) (i : Nat) : Prop := match b with
  | true => h.IsTupleIter it l i
  | false => h.IsListIter it l i
def SAt (b : Bool) (h : Heap) (l : Addr) (items : Array Value) : Prop := match b with
  | true => h.IsTuple l items
  | false => h.IsList l items
theorem SIt.at {b : Bool} {h h' : Heap} {it l : Addr} {i : Nat} (x : SIt b h it l i) (e : ∀ o, h.get? it = some o → h'.get? it = some o) : SIt b h' it l i := by
  cases b with
  | true => exact Heap.IsTupleIter.at x e
  | false => exact Heap.IsListIter.at x e
theorem SAt.at {b : Bool} {h h' : Heap} {l : Addr} {its : Array Value} (x : SAt b h l its) (e : ∀ o, h.get? l = some o → h'.get? l = some o) : SAt b h' l its := by
  cases b with
  | true => exact Heap.IsTuple.at x e
  | false => exact Heap.IsList.at x e
theorem SIt.obj {b : Bool} {h : Heap} {it l : Addr} {i : Nat} (x : SIt b h it l i) : ∃ o, h.get? it = some o ∧ ∀ v, o.data ≠ .cell v := by
  cases b with
  | true => obtain ⟨o, e, _, d⟩ := x; exact ⟨o, e, fun v q => by rw [d] at q; cases q⟩
  | false => obtain ⟨o, e, _, d⟩ := x; exact ⟨o, e, fun v q => by rw [d] at q; cases q⟩
theorem SAt.lt {b : Bool} {h : Heap} {l : Addr} {its : Array Value} (x : SAt b h l its) : l < h.objs.size := by
  cases b with
  | true => obtain ⟨o, e, _⟩ := x; exact Heap.lt_size e
  | false => obtain ⟨o, e, _⟩ := x; exact Heap.lt_size e
section
variable {X : Cx} {pins : List (Addr × Obj)} {σ : L2.St} {H : Hp} {s : Shared}
end
end Zm
namespace Dl
open PySem L2
variable [TabN]
end Dl
namespace Dl
open PySem L2
variable [TabN]
section
variable {X : Cx}
end
end Dl
namespace Dl
open PySem L2
variable [TabN]
end Dl
namespace Dl
open PySem L2 PySem.Spec PyProof.Rows
variable [TabN]
theorem ta_wC {K : PySem.W.Frag} {v : V} {d : D} {σ : L2.St} {H : Hp} {P : List V → Hp → Prop} (r : ∀ A H, RepV K A H v d) (h : taOf K [wC d] σ H P) : P [v] H := by
  obtain ⟨B, ρ, Q', R, hw, hq⟩ := h
  exact hq [.fro d] [v] ρ B H (fun _ z => z) (fun _ z => .inl z) R ⟨r _ _, trivial⟩ (Sub.refl ρ) Kp.refl hw
theorem ta_mono {K : PySem.W.Frag} {ws : List WE} {σ : L2.St} {H : Hp} {P P' : List V → Hp → Prop} (h : taOf K ws σ H P) (hp : ∀ vs H1, P vs H1 → P' vs H1) : taOf K ws σ H P' := by
  obtain ⟨B, ρ, Q', R, hw, hq⟩ := h
  exact ⟨B, ρ, Q', R, hw, fun ss vs ρ' B' H' a b c d e f g => hp _ _ (hq ss vs ρ' B' H' a b c d e f g)⟩
structure CalleeD (P : Program) (w : World) (K : PySem.W.Frag) (mg : Str → Option Value) (base : Heap) (k : Nat) (x : Str) (ps : List Str) (d : D) (C : WE) : Prop where
  ex : ∃ (f : Addr) (fd : FuncData) (v : V) (us : List Value), FnG P w K mg base CX0 k f fd ps (spOf K ps.length C) ∧ mg x = some (.ref f) ∧ PySem.W.keepIn K (.ref f) = true ∧ (∀ A H, RepV K A H v d) ∧ Vals [v] us ∧ Binds K fd ps us
theorem CalleeD.call {X : Cx} {k : Nat} {x : Str} {ps : List Str} {d : D} {C : WE} {p pos : Pos} {e : Expr} {es : List Expr} {ws : List WE} (c : CalleeD X.prog X.w X.K X.mg X.base k x ps d C) (hr : Room k X.A) (hgu : X.A.guards = some []) (hg : Gl X x) (ha : MA X (e :: es) ws)
    (hn : ws.length + 1 = ps.length := by rfl) (hdb : (x == ("__debug__" : Str)) = false := by decide) (he : starEach (e :: es) X.env = (false, eval e X.env) :: starEach es X.env := by rfl) (hpl : (backTo pos (starEach es X.env)).any (·.1) = false := by rfl) :
    ME X (.Call (.Name x p) (e :: es) [] pos) (wCallPK C ws [wC d]) := by
  obtain ⟨f, fd, v, us, F, hm, hk, hv, hd, hb⟩ := c.ex
  rw [← hn] at F
  exact me_of (pe_callG (E := E0) F hr hgu hg hm hk hb hd (fun _ _ _ _ _ _ _ h => h.elim) ha hdb he hpl) fun B ρ σ H Q' Q R hw hq =>
    ta_mono (callPK_ok (E := E0) R hw hq) fun vs H1 h => (ta_wC hv h.2).2
theorem bindsD1 {K : PySem.W.Frag} {fd : FuncData} {ps : List Str} {D : Addr} {y : Str} {u : Value} (hq : PySem.W.nsIn K D y = some (some u)) (h : ∀ us : List Value, us.length + 1 = ps.length → KwChain D [(y, u)] (bindArgs fd ⟨us, []⟩) (ps.zip (us ++ [u]))) : Binds K fd ps [u] := fun s us X hlen =>
  BindsTo.of_looks fun M => KwChain.looks X (fun q hq' => by rw [List.mem_singleton.mp hq']; exact hq) (h us (by rw [List.length_append] at hlen; exact hlen))
end Dl
namespace Dl
open PySem PySem.Spec PyProof.Rows L2
variable [TabN]
def ExcAt (K : PySem.W.Frag) (A : Addr → Prop) (H : Hp) (cls : Value) (d : Option Addr) (c f : Str) (v : D) : Prop :=
  ∃ (C dd : Addr) (x : V), cls = .ref C ∧ d = some dd ∧ ClsAt K c C ∧ H dd = some (.xd [(f, x)]) ∧ RepV K A H x v
theorem ExcAt.av {K : PySem.W.Frag} {A A' : Addr → Prop} {H : Hp} {cls : Value} {d : Option Addr} {c f : Str} {v : D} (e : ExcAt K A H cls d c f v) (h : ∀ a, A' a → A a) : ExcAt K A' H cls d c f v := by
  obtain ⟨C, dd, x, h1, h2, h3, h4, h5⟩ := e
  exact ⟨C, dd, x, h1, h2, h3, h4, h5.av h⟩
abbrev XD := Str → Str → D → Prop
abbrev XS := Str → Str → D → List Slot → Prop
abbrev WEX := XS → WE
abbrev WSX := XS → WS
def tOfX (K : PySem.W.Frag) (W : WX) (w : WEX) : TE := fun σ H Q => ∃ (B : Addr → Prop) (ρ : List Slot) (Q' : Slot → List Slot → Prop) (ex : XS), Rep K B ρ σ H ∧ w ex ρ Q' ∧
  (∀ s v ρ' H', Post K B ρ' σ H H' s v → Sub ρ' ρ → Kp (Own ρ σ) H H' → Q' s ρ' → Q v H') ∧
  (∀ c f v cls d ρ' H', Rep K B ρ' σ H' → Sub ρ' ρ → Kp (Own ρ σ) H H' → ExcAt K (Av B ρ' σ) H' cls d c f v → ex c f v ρ' → W cls d σ H')
def MEX (X : Cx) (W : WX) (e : Expr) (w : WEX) : Prop := PE X e (tOfX X.K W w)
def ExOk (K : PySem.W.Frag) (B : Addr → Prop) (H0 : Hp) (L : Nat → Addr → Prop) (ex : XS) (W : WX) : Prop :=
  ∀ c f v cls d ρ σ H, Rep K B ρ σ H → Fr H0 L ρ σ H → ExcAt K (Av B ρ σ) H cls d c f v → ex c f v ρ → W cls d σ H
def sOfX (K : PySem.W.Frag) (W : WX) (w : WSX) : TS := fun D σ H => ∃ (B : Addr → Prop) (H0 : Hp) (L : Nat → Addr → Prop) (ρ : List Slot) (KD : DEnds) (ex : XS), Rep K B ρ σ H ∧ Fr H0 L ρ σ H ∧ w ex KD ρ ∧ EndsOk K B H0 L KD D ∧ ExOk K B H0 L ex W
def MX (X : Cx) (W : WX) (st : Stmt) (w : WSX) : Prop := PS X st (sOfX X.K W w)
def MXs (X : Cx) (W : WX) (sts : List Stmt) (w : WSX) : Prop := PSs X sts (sOfX X.K W w)
def wLift (w : WS) : WSX := fun _ => w
def wLiftE (w : WE) : WEX := fun _ => w
def wSeqX (w1 w2 : WSX) : WSX := fun ex KD ρ => w1 ex { KD with nx := fun ρ' => w2 ex KD ρ' } ρ
def wIfX (t : WT) (w1 w2 : WSX) : WSX := fun ex KD ρ => t ρ fun b ρ' => if b = true then w1 ex KD ρ' else w2 ex KD ρ'
def wRetX (w : WEX) : WSX := fun ex KD ρ => w ex ρ KD.rt
def wDropX (w : WEX) : WSX := fun ex KD ρ => w ex ρ fun _ ρ' => KD.nx ρ'
section
variable {X : Cx} {W : WX} {st : Stmt} {rest : List Stmt} {v1 : WS} {w1 w2 : WSX} {e c : Expr} {w : WEX} {t : WT} {pos : Pos}
theorem mxs_of {sts : List Stmt} (h : MSs X sts v1) : MXs X W sts (wLift v1) := PSs_weak h fun D σ H ⟨B, H0, L, ρ, KD, ex, R, F, hw, en, _⟩ => ⟨B, H0, L, ρ, KD, R, F, hw, en⟩
theorem mxs_cons (h1 : MX X W st w1) (h2 : MXs X W rest w2) : MXs X W (st :: rest) (wSeqX w1 w2) :=
  PSs_weak (pss_cons h1 h2) fun D σ H ⟨B, H0, L, ρ, KD, ex, R, F, hw, en, xo⟩ =>
    ⟨B, H0, L, ρ, _, ex, R, F, hw, ⟨fun ρ' σ' H' R' F' h => ⟨B, H0, L, ρ', KD, ex, R', F', h, en, xo⟩, en.bk, en.ct, en.rt⟩, xo⟩
theorem mxs_one (h1 : MX X W st w1) : MXs X W [st] w1 := pss_one h1
theorem mx_if {a b : List Stmt} (hc : MT X c t) (ha : MXs X W a w1) (hb : MXs X W b w2) : MX X W (.If c a b pos) (wIfX t w1 w2) := PS_weak (ps_if hc ha hb) fun D σ H ⟨B, H0, L, ρ, KD, ex, R, F, hw, en, xo⟩ => by
  refine ⟨B, ρ, _, R, hw, fun b ρ' H' R' s k q => ?_⟩
  cases b with
  | true => exact ⟨B, H0, L, ρ', KD, ex, R', F.step k s, q, en, xo⟩
  | false => exact ⟨B, H0, L, ρ', KD, ex, R', F.step k s, q, en, xo⟩
end
end Dl
namespace Dl
open PySem PySem.Spec PyProof.Rows L2
variable [TabN]
theorem pmk_sup {X : Cx} {x a qual : Str} {args : Arguments} {body : List Stmt} {scope : Scope} {C fI : Addr} {e : Expr} {te : TE} {p pos : Pos} (T : SupX.SupTxt X.prog X.K qual a args body scope C fI) (B : SupX.SupBody a args body scope)
    (hr : Room 2 X.A) (gC : X.mg x = some (.ref C)) (kC : PySem.W.keepIn X.K (.ref C) = true) (r : Raises X (.ref C)) (hg : Gl X x) (he : PE X e te)
    (hs : starEach [e] X.env = (false, eval e X.env) :: starEach [] X.env := by rfl) (hdb : (x == ("__debug__" : Str)) = false := by decide) :
    PMk X (.Call (.Name x p) [e] [] pos) (fun σ H Q => te σ H fun v H1 => ∀ dd, H1 dd = none → Q (.ref C) (some dd) (L2.upd H1 dd (.xd [(a, v)]))) := by
  intro pins s σ H Q I h
  refine wpAny_Call_Name_kw (ld_glob I hg gC ?_ hdb)
  refine PySem.W.callWith_K (h₀ := X.base) I.ok.mod.kin kC ?_ hs (by rfl)
  rw [hs]
  show wpAny _ _ (spliced ((false, eval e X.env) :: backTo pos (starEach [] X.env))) _ _ s
  refine Calls.spliced_cons (thn (he.run pins s σ H _ I h) fun u s1 ⟨v, H1, I1, r1, q1⟩ => ?_)
  refine Calls.spliced_nil ⟨I1.kIn, ?_⟩
  show wpAny _ _ (call (.ref C) [u]) _ _ _
  obtain ⟨mb, b1, b2⟩ := I1.ok.mod.blt
  have hd : X.A.depth + 1 < recursionLimit := by have := hr.dp; omega
  refine wpAny_call (SupX.sup_made T B I1.kIn (I1.ok.mod.glob.keeps I1.bk) (b1.keeps I1.bk) (by rw [b2 _ (by decide)]; rfl) I1.nolimit hd fun h' tk y d M => ?_)
  obtain ⟨keep, new, ⟨oe, vs, ho, hc, hdd, hdat, hv1⟩, dbig, dne, ns⟩ := M
  obtain ⟨G, g1, g2⟩ := restrict h' fun b => decide (b ≠ y)
  have gk : ∀ b o, b ≠ y → h'.get? b = some o → G.get? b = some o := fun b o hb e => by
    rw [g1 b (decide_eq_true hb)]
    exact e
  have ga : G.get? y = none := g2 y (decide_eq_false fun z => z rfl)
  have gs : ∀ b o, G.get? b = some o → h'.get? b = some o := fun b o e => by
    by_cases hb : b = y
    · rw [hb, ga] at e
      cases e
    · rw [← g1 b (decide_eq_true hb)]
      exact e
  have n0 : ∀ b o, s1.heap.get? b = some o → b ≠ y := fun b o e z => by
    have := Heap.lt_size e
    rw [z] at this
    exact Nat.lt_irrefl _ (Nat.lt_of_lt_of_le this new)
  have nd : s1.heap.get? d = none := by
    cases q : s1.heap.get? d with
    | none => rfl
    | some o => exact absurd (Nat.lt_of_lt_of_le (Heap.lt_size q) dbig) (Nat.lt_irrefl _)
  have hd1 : H1 d = none := I1.hok.fresh dbig
  have rel : ∀ f, RelO (([(a, v)] : List (Str × V)).lookup f) (if f = a then some u else none) := fun f => by
    by_cases hf : f = a
    · subst hf
      rw [if_pos rfl, show ([(f, v)] : List (Str × V)).lookup f = some v by simp [List.lookup]]
      exact r1
    · rw [if_neg hf, show ([(a, v)] : List (Str × V)).lookup f = none by
        rw [List.lookup_cons, show (f == a) = false by simpa using hf]; rfl]
      trivial
  have J := I1.laidN (h' := G) (a := d) (o := .xd [(a, v)]) (t' := tk) (fun b o e => gk b o (n0 b o e) (keep b o e)) nd hd1 ⟨_, ns.at fun o q => gk d o dne q, rel⟩
  exact ⟨y, oe, vs, _, _, .ref C, some d, rfl, J, gs, ga, ho, ⟨hc, hdd⟩, hdat, hv1, by rw [upd_ne dne.symm]; exact I1.hok.fresh new, rfl, I1.bare, r, q1 d hd1⟩
structure Raiser (P : Program) (K : PySem.W.Frag) (mg : Str → Option Value) (c f : Str) : Prop where
  ex : ∃ (C fI : Addr) (qual : Str) (args : Arguments) (body : List Stmt) (scope : Scope), SupX.SupTxt P K qual f args body scope C fI ∧ SupX.SupBody f args body scope ∧ mg c = some (.ref C) ∧ PySem.W.keepIn K (.ref C) = true ∧ ClsAt K c C
def wRaise (c f : Str) (w : WE) : WSX := fun ex KD ρ => w ρ fun s ρ1 => frz ρ1 s fun d ρ2 => ex c f d ρ2
theorem mx_raise {X : Cx} {W : WX} {c f : Str} {e : Expr} {w : WE} {p pos rpos : Pos} (T : Raiser X.prog X.K X.mg c f) (hc : X.calm = true) (tk : Takes X W) (hr : Room 2 X.A) (hg : Gl X c) (he : ME X e w)
    (hs : starEach [e] X.env = (false, eval e X.env) :: starEach [] X.env := by rfl) (hdb : (c == ("__debug__" : Str)) = false := by decide) : MX X W (.Raise (some (.Call (.Name c p) [e] [] pos)) none rpos) (wRaise c f w) := by
  obtain ⟨C, fI, qual, args, body, scope, T, B, gC, kC, hC⟩ := T.ex
  refine PS_weak (ps_raise hc tk (pmk_sup T B hr gC kC (raises_own T.exC T.tyC) hg he hs hdb)) fun D σ H ⟨B, H0, L, ρ, KD, ex, R, F, hw, en, xo⟩ => ?_
  refine ⟨B, ρ, _, R, hw, fun s v ρ1 H1 post sub kp q => ?_⟩
  obtain ⟨B1, b1, b1', R1, P1⟩ := post.pend
  obtain ⟨d, ρ2, q2, R2, s2, r2⟩ := frz_ok (B0 := B) R1 P1 b1 R.btr q
  intro dd nd
  have e1 := Ex.new (o := HO.xd [(f, v)]) nd
  have R3 := (R2.fewer b1).ex (B' := B) e1 fun a z => .inl z
  refine xo c f d _ _ ρ2 σ _ R3 ((F.step kp (sub.trans s2)).step (e1.kp (S := Own ρ2 σ)) (Sub.refl ρ2)) ⟨C, dd, v, rfl, rfl, hC, upd_same, ?_⟩ q2
  exact r2.mono (S := fun _ => False) e1.kp (fun _ z => z.elim) fun x z => .inl z
def allFro (args : List Slot) : Prop := ∀ (i : Nat) (b : Bool) (o : O), args[i]? ≠ some (.own b o)
theorem allFro.no {args : List Slot} (h : allFro args) : noOwn args := fun i o => h i false o
theorem allFro.own {args : List Slot} (h : allFro args) {σ : L2.St} {a : Addr} (z : Own args σ a) : False := by
  obtain ⟨i, b, o, e, _⟩ := z
  exact h i b o e
theorem allFro_map (ds : List D) : allFro (ds.map .fro) := fun i b o e => by
  rw [List.getElem?_map] at e
  cases q : ds[i]? with
  | none => rw [q] at e; cases e
  | some d => rw [q] at e; cases e
abbrev WDX := XD → WE
def spX (K : PySem.W.Frag) (n : Nat) (C : WDX) : Sp := fun vs H Q E => vs.length = n ∧ ∃ (B : Addr → Prop) (args : List Slot) (Q' : Slot → List Slot → Prop) (ex : XD), Rep K B args (vs.map some) H ∧ allFro args ∧ C ex args Q' ∧
  (∀ s v ρ' H', Post K B ρ' (vs.map some) H H' s v → Sub ρ' args → Kp (Own args (vs.map some)) H H' → Q' s ρ' → Q v H') ∧
  (∀ c f v cls d H', Kp (fun _ => False) H H' → ExcAt K B H' cls d c f v → ex c f v → E cls d H')
theorem pe_callGX {X : Cx} {CX : CXT} {k : Nat} {f : Addr} {fd : FuncData} {ps : List Str} {sp : Sp} {E : L2.St → XK} {x : Str} {p pos : Pos} {e : Expr} {es : List Expr} {t : TA}
    (F : FnG X.prog X.w X.K X.mg X.base CX k f fd ps sp) (hr : Room k X.A) (hgu : X.A.guards = some []) (hg : Gl X x) (hm : X.mg x = some (.ref f)) (hk : PySem.W.keepIn X.K (.ref f) = true) (hb : Binds X.K fd ps []) (hx : ∀ σ, PassesAt CX X σ (E σ))
    (ha : PA X (e :: es) t) (hdb : (x == ("__debug__" : Str)) = false := by decide) (he : starEach (e :: es) X.env = (false, eval e X.env) :: starEach es X.env := by rfl) (hpl : (backTo pos (starEach es X.env)).any (·.1) = false := by rfl) :
    PE X (.Call (.Name x p) (e :: es) [] pos) (tCallS sp E t) := by
  refine ⟨fun pins s σ H Q I h => ?_⟩
  refine wpAny_Call_Name_kw (ld_glob I hg hm ?_ hdb)
  refine PySem.W.callWith_K (h₀ := X.base) I.ok.mod.kin hk (thn (ha.run pos pins s σ H _ I h) fun us s1 ⟨vs, H1, I1, r, q⟩ => ⟨I1.kIn, ?_⟩) he hpl
  have hl : us.length = ps.length := by rw [← r.length]; exact F.len _ _ _ _ q
  have b := hb s1 us I1.kIn (by rw [List.append_nil]; exact hl)
  rw [List.append_nil] at b
  refine wpAny_call (codeAny_mono (F.run X.A X.stack s1 H1 ⟨us, []⟩ us vs Q (E σ) hr hgu I1.env0 b r q) fun res s' hq => ?_)
  match res, hq with
  | .ok (.ret u), hq => exact I1.after hq
  | .ok .next, hq => exact hq.elim
  | .ok .brk, hq => exact hq.elim
  | .ok .cont, hq => exact hq.elim
  | .error e, hq => exact hx σ pins H1 s1 e s' I1 hq
structure CalleeX (P : Program) (w : World) (K : PySem.W.Frag) (mg : Str → Option Value) (base : Heap) (k : Nat) (x : Str) (ps : List Str) (C : WDX) : Prop where
  ex : ∃ (f : Addr) (fd : FuncData), FnG P w K mg base (L2.CX P w) k f fd ps (spX K ps.length C) ∧ mg x = some (.ref f) ∧ PySem.W.keepIn K (.ref f) = true ∧ Binds K fd ps []
def wCallX (C : WDX) (ws : List WE) : WEX := fun ex ρ Q => wArgs ws ρ fun ss ρ1 => frzL ρ1 ss fun ds ρ2 => ds.length = ws.length ∧ C (fun c f v => ex c f v ρ2) (ds.map .fro) fun r _ => match r with
  | .fro d => Q (.fro d) ρ2
  | .own _ o => Q (.own false o) ρ2
  | _ => False
theorem callX_ok {K : PySem.W.Frag} {C : WDX} {B : Addr → Prop} {ρ : List Slot} {σ : L2.St} {H : Hp} {ws : List WE} {W : WX} {Q' : Slot → List Slot → Prop} {Q : VK} {ex : XS} (R : Rep K B ρ σ H) (hw : wCallX C ws ex ρ Q')
    (hq : ∀ s v ρ' H', Post K B ρ' σ H H' s v → Sub ρ' ρ → Kp (Own ρ σ) H H' → Q' s ρ' → Q v H')
    (hx : ∀ c f v cls d ρ' H', Rep K B ρ' σ H' → Sub ρ' ρ → Kp (Own ρ σ) H H' → ExcAt K (Av B ρ' σ) H' cls d c f v → ex c f v ρ' → W cls d σ H') :
    taOf K ws σ H fun vs H1 => spX K ws.length C vs H1 Q (L2.WE W σ) := by
  refine args_frz R hw fun ds vs ρ2 H2 R2 r sub kp ⟨hl, hC⟩ => ?_
  refine ⟨by rw [r.length]; exact hl, Av B ρ2 σ, ds.map .fro, _, _, repL_rep (fun a z => R2.av_trk z) R2.tabs r, allFro_map ds, hC, fun s v ρ' H' post _ k3 h => ?_, fun c f v cls d H' k3 ea h => ?_⟩
  · have ex : Kp (fun _ => False) H2 H' := k3.mono fun a z => (allFro_map ds).own z
    have k' : Kp (Own ρ σ) H H' := kp.trans (ex.mono fun _ z => z.elim) fun _ z => z
    match s, post, h with
    | .fro d, post, h => exact hq _ _ ρ2 H' (postF (R2.same ex fun a z => .inl z) (post.2.av fun a z => .inr z)) sub k' h
    | .own b o, ⟨a, hv, n, nb, R', q⟩, h =>
      subst hv
      refine hq _ _ ρ2 H' (postO (b := false) (kp.back n) (fun z => R2.btr a z n) (R2.same ex fun x z => z.elim .inl fun z => .inr ⟨by rw [z]; exact n, by rw [z]; exact q.trk⟩) (q.av fun x z => ?_)) sub k' h
      rcases z with z | z | z
      · exact .inr (.inl (.inl z))
      · exact .inr (.inl (.inr z))
      · exact .inr (.inr z)
  · exact hx c f v cls d ρ2 H' (R2.same k3 fun a z => .inl z) sub (kp.trans (k3.mono fun _ z => z.elim) fun _ z => z) ea h
theorem CalleeX.call {X : Cx} {W : WX} {k : Nat} {x : Str} {ps : List Str} {C : WDX} {p pos : Pos} {e : Expr} {es : List Expr} {ws : List WE} (c : CalleeX X.prog X.w X.K X.mg X.base k x ps C) (tk : Takes X W) (hr : Room k X.A) (hgu : X.A.guards = some []) (hg : Gl X x) (ha : MA X (e :: es) ws) (hn : ws.length = ps.length := by rfl) (hdb : (x == ("__debug__" : Str)) = false := by decide)
    (he : starEach (e :: es) X.env = (false, eval e X.env) :: starEach es X.env := by rfl) (hpl : (backTo pos (starEach es X.env)).any (·.1) = false := by rfl) : MEX X W (.Call (.Name x p) (e :: es) [] pos) (wCallX C ws) := by
  obtain ⟨f, fd, F, hm, hk, hb⟩ := c.ex
  rw [← hn] at F
  exact PE_weak (pe_callGX (E := L2.WE W) F hr hgu hg hm hk hb (passAt tk) ha hdb he hpl) fun σ H Q ⟨B, ρ, Q', ex, R, hw, hq, hx⟩ => callX_ok R hw hq hx
theorem body_start {K : PySem.W.Frag} {B : Addr → Prop} {args : List Slot} {vs : List V} {H : Hp} {Q' : Slot → List Slot → Prop} {Q : VK} (n : Nat) (R : Rep K B args (vs.map some) H) (no : noOwn args)
    (hq : ∀ s v ρ' H', Post K B ρ' (vs.map some) H H' s v → Sub ρ' args → Kp (Own args (vs.map some)) H H' → Q' s ρ' → Q v H') :
    Fr H (fun i a => (∃ o : O, args[i]? = some (.own true o)) ∧ (vs.map some)[i]? = some (some (.ref a))) (args ++ List.replicate n .nil) (vs.map some ++ List.replicate n none) H ∧
    EndsOk K B H (fun i a => (∃ o : O, args[i]? = some (.own true o)) ∧ (vs.map some)[i]? = some (some (.ref a))) (endsOf args Q') { nx := fun _ H' => Q .non H', rt := Q } := by
  have lentEq : ∀ (i : Nat) (a : Addr), ((∃ o : O, args[i]? = some (.own true o)) ∧ (vs.map some)[i]? = some (some (V.ref a))) ↔ ((∃ o : O, (args ++ List.replicate n Slot.nil)[i]? = some (.own true o)) ∧ (vs.map some ++ List.replicate n none)[i]? = some (some (V.ref a))) := fun i a => by
    constructor
    · rintro ⟨⟨o, e1⟩, e2⟩; exact ⟨⟨o, get_app e1⟩, get_app e2⟩
    · rintro ⟨⟨o, e1⟩, e2⟩
      rcases app_get e1 with e1 | ⟨_, e1⟩
      · have hi := (List.getElem?_eq_some_iff.mp e1).1
        rw [List.getElem?_append_left (by rw [← R.len]; exact hi)] at e2
        exact ⟨⟨o, e1⟩, e2⟩
      · rw [List.getElem?_replicate] at e1; split at e1 <;> cases e1
  refine ⟨⟨fun a o e _ _ => e, fun a o e _ => e, fun a e => e, fun i o a e1 e2 => ?_, lentEq⟩, ?_⟩
  · rcases app_get e1 with e1 | ⟨_, e1⟩
    · exact absurd e1 (no i o)
    · rw [List.getElem?_replicate] at e1; split at e1 <;> cases e1
  · have done : ∀ {B' : Addr → Prop} {ρ' : List Slot} {σ' : L2.St} {H' : Hp} {s' : Dl.Slot} {v : V}, Rep K B' ρ' σ' H' → Fr H (fun i a => (∃ o : O, args[i]? = some (.own true o)) ∧ (vs.map some)[i]? = some (some (.ref a))) ρ' σ' H' →
        (∀ a, B a → B' a) → (∀ a, B' a → B a ∨ H a = none) → (match s' with
          | .fro d => RepV K (Av B' ρ' σ') H' v d
          | .own _ o => ∃ a, v = .ref a ∧ H a = none ∧ B' a ∧ OOk K (Av B' ρ' σ') H' a o
          | _ => False) → Q' s' (outsOf args ρ') → Q v H' := fun {B' ρ' σ' H' s' v} R' F' b1 b2 res q => by
      obtain ⟨Ro, so, ko, oo⟩ := ends_rep R no R' F' (fun i a => Iff.rfl) b2
      have av : ∀ x, Av B' (outsOf args ρ') (vs.map some) x → Av B' ρ' σ' x := fun x z => z.elim (fun z => .inl (oo x z)) .inr
      match s', res, q with
      | .fro d, res, q => exact hq _ v _ H' (postF (Ro.fewer b1) (res.av fun x z => av x (z.elim .inl fun z => .inr (b1 x z)))) so ko q
      | .own b o, ⟨a, hv, n, hB', ok⟩, q =>
        subst hv
        have nb : ¬ B a := fun z => R.btr a z n
        have inc : ∀ x, B x ∨ x = a → B' x := fun x z => z.elim (b1 x) fun z => by rw [z]; exact hB'
        exact hq _ _ _ H' (postO n nb (Ro.fewer inc) (ok.av fun x z => av x (z.elim .inl fun z => .inr (inc x z)))) so ko q
    refine ⟨fun ρ' σ' H' R' F' q => done (s' := .fro .non) R' F' (fun _ z => z) (fun _ z => .inl z) .non q, fun _ _ _ _ _ q => q.elim, fun _ _ _ _ _ q => q.elim, fun s' v ρ' σ' H1 H' post F' ht q => ?_⟩
    have back : ∀ a, H1 a = none → H a = none := fun a z => by
      cases e : H a with
      | none => rfl
      | some o => exact absurd z (ht a (by rw [e]; exact nofun))
    match s', post, q with
    | .fro d, post, q => exact done (s' := .fro d) post.1 F' (fun _ z => z) (fun _ z => .inl z) post.2 q
    | .own b o, ⟨a, hv, n, nb, R', ok⟩, q => exact done (s' := .own false o) R' F' (fun _ z => .inl z) (fun x z => z.elim .inl fun z => .inr (by rw [z]; exact back a n)) ⟨a, hv, back a n, .inr rfl, ok⟩ q
    | .var i, post, q =>
      obtain ⟨R', ev⟩ := post
      have q : (match ρ'[i]? with
        | some (.own false o) => Q' (.own false o) (outsOf args (ρ'.set i .nil))
        | some (.fro d) => Q' (.fro d) (outsOf args ρ')
        | _ => False) := q
      cases e : ρ'[i]? with
      | none => rw [e] at q; exact q.elim
      | some t =>
        rw [e] at q
        match t, e, q with
        | .fro d, e, q =>
          obtain ⟨v', e1, r⟩ := R'.slot i _ e
          rw [ev] at e1; cases e1
          exact done (s' := .fro d) R' F' (fun _ z => z) (fun _ z => .inl z) r q
        | .own false o, e, q =>
          obtain ⟨a, e1, ok⟩ := R'.slot i _ e
          rw [ev] at e1; cases e1
          have oa : Own ρ' σ' a := ⟨i, false, o, e, ev⟩
          have hi := (List.getElem?_eq_some_iff.mp e).1
          -- the slot is emptied, its thing shut out
          have ow : ∀ x, Own (ρ'.set i .nil) σ' x → Own ρ' σ' x ∧ x ≠ a := fun x ⟨j, b, o', f1, f2⟩ => by
            rcases getElem?_set_of f1 with ⟨_, z⟩ | ⟨m, z⟩
            · cases z
            · exact ⟨⟨j, b, o', z, f2⟩, fun h => m (R'.inj i j false o b o' a e z ev (by rw [f2, h]))⟩
          have av : ∀ x, Av (fun x => B x ∨ x = a) (ρ'.set i .nil) σ' x → Av B ρ' σ' x := fun x z => by
            rcases z with z | z | z
            · exact .inl (ow x z).1
            · exact .inr z
            · exact .inl (by rw [z]; exact oa)
          have R2 : Rep K (fun x => B x ∨ x = a) (ρ'.set i .nil) σ' H' := by
            refine ⟨by rw [List.length_set]; exact R'.len, fun j s f => ?_, fun j k b o1 b' o2 x f1 f2 f3 f4 => ?_, fun x z => z.elim (R'.btr x) fun z => by rw [z]; exact ok.trk, fun x z h => h.elim (R'.dis x (ow x z).1) (ow x z).2, R'.tabs⟩
            · rcases getElem?_set_of f with ⟨_, z⟩ | ⟨_, z⟩
              · subst z; trivial
              · have y := R'.slot j s z
                cases s with
                | nil => trivial
                | fro d => obtain ⟨v, g1, r⟩ := y; exact ⟨v, g1, r.av av⟩
                | own b o => obtain ⟨x, g1, r⟩ := y; exact ⟨x, g1, r.av av⟩
                | var k => exact y
            · rcases getElem?_set_of f1 with ⟨_, z⟩ | ⟨_, z1⟩
              · cases z
              · rcases getElem?_set_of f2 with ⟨_, z⟩ | ⟨_, z2⟩
                · cases z
                · exact R'.inj j k b o1 b' o2 x z1 z2 f3 f4
          have F2 : Fr H (fun i a => (∃ o : O, args[i]? = some (.own true o)) ∧ (vs.map some)[i]? = some (some (.ref a))) (ρ'.set i .nil) σ' H' := by
            refine ⟨fun a o e n t => F'.keep a o e n t, F'.imm, F'.trk, fun j o' x f1 f2 => ?_, fun j x => ?_⟩
            · rcases getElem?_set_of f1 with ⟨_, z⟩ | ⟨_, z⟩
              · cases z
              · exact F'.ownf j o' x z f2
            · rw [F'.lent j x]
              by_cases m : i = j
              · subst m
                constructor
                · rintro ⟨⟨o', f⟩, _⟩; rw [e] at f; cases f
                · rintro ⟨⟨o', f⟩, _⟩
                  rcases getElem?_set_of f with ⟨_, z⟩ | ⟨m, _⟩
                  · cases z
                  · exact absurd rfl m
              · rw [List.getElem?_set_ne m]
          have na := F'.ownf i o a e ev
          exact done (s' := .own false o) R2 F2 (fun _ z => .inl z) (fun x z => z.elim .inl fun z => .inr (by rw [z]; exact na)) ⟨a, rfl, na, .inr rfl, ok.av av⟩ q
theorem def_okX {P : Program} {w : World} {K : PySem.W.Frag} {mg : Str → Option Value} {base : Heap} {x qual : Str} {st : Stmt} {f : Addr} {fd : FuncData} {N ps : List Str} {k : Nat} {C : WDX} {wb : WSX} (F : Fun K x qual st f fd) (S : FnScope N ps (defScope st))
    (hb : ∀ (cdv : Value) (A : Around) (outer : List Env) (s : Shared) (H : Hp) (E : XK), Room k (A.deeper (envOfC qual (defScope st) s.heap.objs.size f cdv)) → (A.deeper (envOfC qual (defScope st) s.heap.objs.size f cdv)).guards = some [] →
      Takes (bodyCx (L2.CX P w) P w K mg base N qual st f cdv A outer s H E) (fun cls d _ H => E cls d H) → PassesOwn (model P w) (A.deeper (envOfC qual (defScope st) s.heap.objs.size f cdv)) (envOfC qual (defScope st) s.heap.objs.size f cdv) (bodyCx (L2.CX P w) P w K mg base N qual st f cdv A outer s H E).xe →
      MXs (bodyCx (L2.CX P w) P w K mg base N qual st f cdv A outer s H E) (fun cls d _ H => E cls d H) (defBody st) wb)
    (hC : ∀ args ex Q, args.length = ps.length → allFro args → C ex args Q → wb (fun c f v _ => ex c f v) (endsOf args Q) (args ++ List.replicate (N.length - ps.length) .nil)) :
    FnG P w K mg base (L2.CX P w) (k + 1) f fd ps (spX K ps.length C) := by
  obtain ⟨oc, od, kV, doc, pm, an, cdv, ct, osl, rfl, lk, hcd⟩ := F.ex
  refine fnG_of lk hcd S (fun vs H Q E h => h.1) fun A outer s H vs Q E hr hgu hsp => ?_
  have tk : Takes (bodyCx (L2.CX P w) P w K mg base N qual st f cdv A outer s H E) (fun cls d _ H => E cls d H) := takes_of rfl rfl rfl rfl
  have po : PassesOwn (model P w) (A.deeper (envOfC qual (defScope st) s.heap.objs.size f cdv)) (envOfC qual (defScope st) s.heap.objs.size f cdv) (bodyCx (L2.CX P w) P w K mg base N qual st f cdv A outer s H E).xe := PassesOwn.leaving
  refine ⟨_, hb cdv A outer s H E hr hgu tk po, ?_⟩
  obtain ⟨hl, B, args, Q', ex, R, af, hc, hq, hx⟩ := hsp
  have hla : args.length = ps.length := by rw [R.len, List.length_map]; exact hl
  have hw := hC args ex Q' hla af hc
  have hst : L2.start N vs = vs.map some ++ List.replicate (N.length - ps.length) none := by unfold L2.start; rw [hl]
  obtain ⟨R0, ow⟩ := R.start (n := N.length - ps.length)
  obtain ⟨F0, en⟩ := body_start (N.length - ps.length) R af.no hq
  rw [hst]
  refine ⟨B, H, _, _, endsOf args Q', _, R0, F0, hw, en, fun c f v cls d ρ σ H' R' F' ea q => ?_⟩
  exact hx c f v cls d H' ⟨⟨fun a o e _ t => F'.keep a o e (fun i z => af i true _ z.1.choose_spec) t, F'.imm⟩, F'.trk, fun _ => R'.tabs⟩ (ea.av fun a z => .inr z) q
end Dl
namespace Dl
open PySem PySem.Spec PyProof.Rows L2
variable [TabN]
theorem _root_.L2.Inv.trackX {X : Cx} {pins : List (Addr × Obj)} {σ : L2.St} {H : Hp} {s : Shared} {a : Addr} {oe : Obj} {vs : Array Value} {cls : Value} {d : Option Addr} (I : Inv X pins σ H s) (he : s.heap.get? a = some oe) (hz : Zc cls d oe) (hd : oe.data = .fields vs)
    (na : H a = none) (n0 : X.s_0.heap.get? a = none) (nL : a ≠ X.env.locals) (np : ∀ p ∈ X.pn ++ pins, p.1 ≠ a) : Inv X pins σ (L2.upd H a (ExcO cls d a)) s := by
  have ne0 : ∀ b o, X.s_0.heap.get? b = some o → b ≠ a := fun b o e z => by
    rw [z, n0] at e
    cases e
  have sm : ∀ b u, H b = some u → b ≠ a := fun b u e => ne_of_none e na
  have cellN : ∀ y c, X.env.cells.lookup y = some c → c ≠ a := fun y c e z => by
    obtain ⟨v, o, ho, hc⟩ := I.cell y c e
    rw [z, he] at ho
    cases ho
    rw [hd] at hc
    cases hc
  refine ⟨I.ok, I.os, I.bare, ⟨I.base.keep, I.base.slot, fun b o e n hq => ?_, I.base.there, fun b xs e => ?_, fun b o u e => ?_, fun b ps e => ?_⟩, I.loc, I.cell, ?_, fun y c e => ?_, fun p hp => ?_, fun b u e => ?_, I.len⟩
  · rw [upd_ne (ne0 b o e)]
    exact I.base.free b o e n hq
  · have q := I.base.tups b xs e
    rw [upd_ne (sm b _ q)]
    exact q
  · have q := I.base.frzs b o u e
    rw [upd_ne (sm b _ q)]
    exact q
  · obtain ⟨m, q⟩ := I.base.tbls b ps e
    exact ⟨m, by rw [upd_ne (sm b _ q)]; exact q⟩
  · rw [upd_ne nL.symm]
    exact I.free
  · rw [upd_ne (cellN y c e)]
    exact I.freeC y c e
  · obtain ⟨e, n, r⟩ := I.pin p hp
    exact ⟨e, by rw [upd_ne (np p hp)]; exact n, r⟩
  · by_cases hb : b = a
    · subst hb
      rw [upd_same] at e
      cases e
      exact ⟨⟨oe, vs, he, hz, hd⟩, ⟨oe, he⟩, fun _ _ ⟨o, v, q, r⟩ k => ⟨o, v, k o q, r⟩⟩
    · rw [upd_ne hb] at e
      exact (I.hok b u e).stay (fun c v _ q => q) (fun c q => by rw [upd_ne (ne_of_none q na)]; exact q) fun c xs q => by rw [upd_ne (ne_of_none q na)]; exact q
theorem _root_.L2.Inv.suiteK {X : Cx} {pins : List (Addr × Obj)} {σ : L2.St} {H : Hp} {s : Shared} (I : Inv X pins σ H s) (a : Addr) : Inv (X.suite a (X.pn ++ pins)) [] σ H s :=
  ⟨I.ok.suite _ _, I.os, I.bare, I.base, I.loc, I.cell, I.free, I.freeC, fun p hp => I.pin p (by rw [List.append_nil] at hp; exact hp), I.hok, I.len⟩
theorem _root_.L2.Inv.unsuiteK {X : Cx} {pins : List (Addr × Obj)} {σ : L2.St} {H : Hp} {s : Shared} {a : Addr} {pn' : List (Addr × Obj)} (I : Inv (X.suite a (X.pn ++ pins)) pn' σ H s) (ok : X.Ok) : Inv X pins σ H s :=
  ⟨ok, I.os, I.bare, I.base, I.loc, I.cell, I.free, I.freeC, fun p hp => I.pin p (List.mem_append_left _ hp), I.hok, I.len⟩
def unN (i : Option Nat) (σ : L2.St) : L2.St := match i with
  | some i => σ.set i none
  | none => σ
def endsN (i : Option Nat) (D : Ends) : Ends := { nx := fun σ H => D.nx (unN i σ) H, rt := D.rt, bk := fun σ H => D.bk (unN i σ) H, ct := fun σ H => D.ct (unN i σ) H }
def setN (i : Option Nat) (a : Addr) (σ : L2.St) : L2.St := match i with
  | some i => σ.set i (some (.ref a))
  | none => σ
def wKeep (K : PySem.W.Frag) (Wout : WX) (D : Ends) : List (Value × Option Nat × TS) → WX
  | [] => Wout
  | (c, i, ts) :: r => fun cls d σ H => ∃ b, PySem.W.exmOne K cls c = some b ∧ (b = true → ∀ a, H a = none → ts (endsN i D) (setN i a σ) (L2.upd H a (ExcO cls d a))) ∧ (b = false → wKeep K Wout D r cls d σ H)
inductive HdsK (X : Cx) : List ExceptHandler → List (Value × Option Nat × TS) → Prop
  | nil : HdsK X [] []
  | as {x n : Str} {c : Value} {i : Nat} {ts : TS} {b₀ : Stmt} {suite : List Stmt} {np pos' : Pos} {hds : List ExceptHandler} {l : List (Value × Option Nat × TS)} (hc : Names X x c) (hi : X.N[i]? = some n) (hln : X.env.kindOf n = some .local)
      (hsu : ∀ (a : Addr) (pn : List (Addr × Obj)), PSs (X.suite a pn) (b₀ :: suite) ts) (r : HdsK X hds l) : HdsK X (.ExceptHandler (some (.Name x np)) (some n) (b₀ :: suite) pos' :: hds) ((c, some i, ts) :: l)
  | only {x : Str} {c : Value} {ts : TS} {b₀ : Stmt} {suite : List Stmt} {np pos' : Pos} {hds : List ExceptHandler} {l : List (Value × Option Nat × TS)} (hc : Names X x c)
      (hsu : ∀ (a : Addr) (pn : List (Addr × Obj)), PSs (X.suite a pn) (b₀ :: suite) ts) (r : HdsK X hds l) : HdsK X (.ExceptHandler (some (.Name x np)) none (b₀ :: suite) pos' :: hds) ((c, none, ts) :: l)
section
variable {X : Cx} {body : List Stmt} {h₀ : ExceptHandler} {hds : List ExceptHandler} {l : List (Value × Option Nat × TS)} {pos : Pos} {tb : WX → TS} {Wout : WX}
theorem ps_try_keep (hs : X.stack = X.env :: X.outer) (hf : X.env.frame = some X.env.locals) (hex : X.ex = []) (hN : X.N.Nodup) (tk : Takes X Wout)
    (hb : ∀ (W : WX) (pn : List (Addr × Obj)) (xe : Value → Shared → Prop), Takes (X.tr pn xe) W → PassesOwn (model X.prog X.w) X.A X.env xe → PSs (X.tr pn xe) body (tb W))
    (hh : HdsK X (h₀ :: hds) l) : PS X (.Try body (h₀ :: hds) [] [] pos) (fun D σ H => tb (wKeep X.K Wout D l) D σ H) := by
  refine ⟨fun pins s σ H D I h => ?_⟩
  have ok := I.ok
  have hfr : X.A.frames = some (X.env :: X.outer) := by rw [ok.frames, hs]
  refine wpAny_Try_except ?_
  refine wpAny_mono ((hb (wKeep X.K Wout D l) (X.pn ++ pins) (fun e s₁ => wpAny (model X.prog X.w) X.A (noteFrame e X.env) (fun _ s₂ => wpAny (model X.prog X.w) X.A (setFlight e none) (fun _ s₃ =>
    wpAny (model X.prog X.w) X.A (handleBy e X.env (h₀ :: hds)) (SP X pins D) X.xe s₃) X.xe s₂) X.xe s₁) (fun u s' xx => ?_) PassesOwn.looking).run [] s σ H D (I.toTry _) h) (fun f s1 hsp => ?_) (fun e s1 he => he)
  · -- the catch
    obtain ⟨a, B, sI, pins', σ', H', cls, d, rfl, J', nb, up, sky, na, os, ag, w⟩ := xx
    have J : Inv X pins σ' H' sI := J'.ofTry ok
    have hBa : B.get? a = none := by
      rcases sky with ⟨_, z, _⟩ | fl | hd
      · exact z
      · exact fl.2.1
      · exact hd.2.1
    have sky' : Sky B (X.env :: X.outer) a (Zc cls d) X.env.locals s'.heap := by rw [← hs]; exact sky
    show wpAny (model X.prog X.w) X.A (noteFrame (.ref a) X.env) _ _ _
    refine Sky.land Zc.steady hfr hf sky' fun h3 fl3 up3 => ?_
    have J3 : Inv X pins σ' H' { s' with heap := h3 } := J.landed nb fl3.1 (up.trans up3) os ag
    obtain ⟨oe3, vs3, he3, hz3, hd3⟩ := fl3.there
    have notFr : ∀ {h : Heap} {o : Obj} {vs : Array Value}, h.FunFrames B (X.env :: X.outer) → h.get? a = some o → o.data = .fields vs → a ∉ frs (X.env :: X.outer) := fun {h o vs} ff e dd hm => by
      obtain ⟨_, o', e', hnf⟩ := ff.mem hm
      rw [e] at e'; cases e'
      exact hnf _ dd
    have nfr := notFr fl3.2.2.1 he3 hd3
    have nL : a ≠ X.env.locals := fun z => nfr (List.mem_filterMap.mpr ⟨X.env, List.mem_cons_self, by rw [hf, z]⟩)
    have nF : a ∉ X.fs := fun hm => by
      obtain ⟨e, he, q⟩ := List.mem_filterMap.mp hm
      exact nfr (List.mem_filterMap.mpr ⟨e, List.mem_cons_of_mem _ he, q⟩)
    -- nothing of the state without it stands at a
    have inI : ∀ o, sI.heap.get? a = some o → False := fun o e => by
      have nst : a ∉ frs X.stack := by rw [hs]; exact nfr
      have z := nb a o e nst
      rw [hBa] at z; cases z
    have n0 : X.s_0.heap.get? a = none := by
      cases e : X.s_0.heap.get? a with
      | none => rfl
      | some o =>
        obtain ⟨o', z⟩ := J.base.there a o e (by rw [hex]; exact fun z => nomatch z)
        exact (inI o' z).elim
    have np : ∀ p ∈ X.pn ++ pins, p.1 ≠ a := fun p hp z => by
      have e := (J.pin p hp).1
      rw [z] at e
      exact inI _ e
    have S3 := J3.suiteK a
    have go : ∀ {hds' : List ExceptHandler} {l' : List (Value × Option Nat × TS)}, HdsK X hds' l' → wKeep X.K Wout D l' cls d σ' H' →
        wpAny (model X.prog X.w) X.A (handleBy (.ref a) X.env hds') (SP X pins D) X.xe { s' with heap := h3 } := by
      intro hds' l' hk
      induction hk with
      | nil =>
        intro w
        refine wpAny_handleBy_nil ?_
        obtain ⟨k1, k2, k3, oe, vs, T, oT, ts', he, hz, hd, h1, hr⟩ := id fl3
        unfold PySem.passOn
        refine wpAny_bind (wpAny_field he hd h1 ?_)
        rw [if_neg (show ¬ ((Value.ref T == Value.none) = true) from by simp)]
        have fin : wpAny (model X.prog X.w) X.A (setFlight (.ref a) X.env.frame) (fun _ s4 => wpAny (model X.prog X.w) X.A (throw (.ref a) : Sem Flow) (SP X pins D) X.xe s4) X.xe { s' with heap := h3 } := by
          rw [hf]
          refine HandSPX.setFlight_upZ fl3 fun h4 hh4 up4 => wpAny_throw (tk _ _ ?_)
          exact ⟨a, B, sI, pins, σ', H', cls, d, rfl, J, nb, (up.trans up3).trans up4, .inr (.inr (by rw [hs]; exact hh4)), na, os, ag, w⟩
        first
          | exact wpAny_bind (wpAny_pure (wpAny_bind fin))
          | exact wpAny_bind fin
      | @as x n c i ts b₀ suite np' pos' hds2 l2 hc hi hln hsu r ih =>
        intro w
        obtain ⟨b, hb1, hyes, hno⟩ := w
        refine wpAny_handleBy_cons (codeAny_handlers_test ?_) (by intro q; cases q)
        have LT : PySem.W.Looks (model X.prog X.w) h3 (typeOf (.ref a)) cls := fun A Q E s k q => wpAny_typeOf_ref (k _ _ he3) (by rw [hz3.1]; exact q)
        have LM := PySem.W.exm_one (M := model X.prog X.w) (J3.kIn) LT hb1
        have test : ∀ {Q : Value → Shared → Prop} {E : Value → Shared → Prop}, Q c { s' with heap := h3 } → wpAny (model X.prog X.w) (X.A.mark (some (.ref a))) (eval (.Name x np') X.env) Q E { s' with heap := h3 } := fun {Q E} q => by
          obtain ⟨hg, hdbg, hm | ⟨hm, hv, hnn⟩⟩ := hc
          · exact ld_glob (X := X.suite a (X.pn ++ pins)) S3 hg hm q hdbg
          · exact ld_blt (X := X.suite a (X.pn ++ pins)) S3 hg hm hv q hnn hdbg
        refine test (LM.here ?_)
        cases b with
        | true =>
          refine codeAny_handlers_suite_as ?_
          refine HandSPX.lands_againZ fl3 fun h4 fl4 up4 => ?_
          have J4 : Inv X pins σ' H' { s' with heap := h4 } := J.landed nb fl4.1 ((up.trans up3).trans up4) os ag
          obtain ⟨oe4, vs4, he4, hz4, hd4⟩ := fl4.there
          have S4 := (J4.trackX he4 hz4 hd4 na n0 nL np).suiteK a
          refine store_ok (X := X.suite a (X.pn ++ pins)) (v := .ref a) S4 hN hi (.inl hln) rfl (fun s5 S5 => ?_) (.inr hln)
          refine wpAny_mono ((hsu a (X.pn ++ pins)).run [] s5 _ _ _ S5 (hyes rfl a na)) (fun f s6 hsp => ?_) (fun _ _ z => False.elim z)
          have end_ : ∀ {σ6 : L2.St} {H6 : Hp} {Q : Shared → Prop}, Inv (X.suite a (X.pn ++ pins)) [] σ6 H6 s6 → (∀ s7, Inv X pins (σ6.set i none) H6 s7 → Q s7) →
              wpAny (model X.prog X.w) X.A (do bindName X.env n .none; unbindBehindTheSuite X.env n pos') (fun _ s7 => Q s7) X.xe s6 := fun {σ6 H6 Q} S6 hq => gone_ok (S6.unsuiteK ok) hN hi hln hq
          cases f with
          | next =>
            obtain ⟨σ6, H6, S6, q6⟩ := hsp
            exact end_ S6 fun s7 J7 => ⟨_, _, J7, q6⟩
          | brk =>
            obtain ⟨σ6, H6, S6, q6⟩ := hsp
            exact end_ S6 fun s7 J7 => ⟨_, _, J7, q6⟩
          | cont =>
            obtain ⟨σ6, H6, S6, q6⟩ := hsp
            exact end_ S6 fun s7 J7 => ⟨_, _, J7, q6⟩
          | ret u =>
            obtain ⟨v6, σ6, H6, S6, r6, q6⟩ := hsp
            exact end_ S6 fun s7 J7 => ⟨_, _, _, J7, r6, q6⟩
        | false =>
          show wpAny _ X.A (handleBy (.ref a) X.env hds2) _ _ _
          exact ih (hno rfl)
      | @only x c ts b₀ suite np' pos' hds2 l2 hc hsu r ih =>
        intro w
        obtain ⟨b, hb1, hyes, hno⟩ := w
        refine wpAny_handleBy_cons (codeAny_handlers_test ?_) (by intro q; cases q)
        have LT : PySem.W.Looks (model X.prog X.w) h3 (typeOf (.ref a)) cls := fun A Q E s k q => wpAny_typeOf_ref (k _ _ he3) (by rw [hz3.1]; exact q)
        have LM := PySem.W.exm_one (M := model X.prog X.w) (J3.kIn) LT hb1
        have test : ∀ {Q : Value → Shared → Prop} {E : Value → Shared → Prop}, Q c { s' with heap := h3 } → wpAny (model X.prog X.w) (X.A.mark (some (.ref a))) (eval (.Name x np') X.env) Q E { s' with heap := h3 } := fun {Q E} q => by
          obtain ⟨hg, hdbg, hm | ⟨hm, hv, hnn⟩⟩ := hc
          · exact ld_glob (X := X.suite a (X.pn ++ pins)) S3 hg hm q hdbg
          · exact ld_blt (X := X.suite a (X.pn ++ pins)) S3 hg hm hv q hnn hdbg
        refine test (LM.here ?_)
        cases b with
        | true =>
          refine codeAny_handlers_suite ?_
          refine HandSPX.lands_againZ fl3 fun h4 fl4 up4 => ?_
          have J4 : Inv X pins σ' H' { s' with heap := h4 } := J.landed nb fl4.1 ((up.trans up3).trans up4) os ag
          obtain ⟨oe4, vs4, he4, hz4, hd4⟩ := fl4.there
          have S4 := (J4.trackX he4 hz4 hd4 na n0 nL np).suiteK a
          refine wpAny_mono ((hsu a (X.pn ++ pins)).run [] _ _ _ _ S4 (hyes rfl a na)) (fun f s6 hsp => ?_) (fun _ _ z => False.elim z)
          cases f with
          | next =>
            obtain ⟨σ6, H6, S6, q6⟩ := hsp
            exact ⟨_, _, S6.unsuiteK ok, q6⟩
          | brk =>
            obtain ⟨σ6, H6, S6, q6⟩ := hsp
            exact ⟨_, _, S6.unsuiteK ok, q6⟩
          | cont =>
            obtain ⟨σ6, H6, S6, q6⟩ := hsp
            exact ⟨_, _, S6.unsuiteK ok, q6⟩
          | ret u =>
            obtain ⟨v6, σ6, H6, S6, r6, q6⟩ := hsp
            exact ⟨_, _, _, S6.unsuiteK ok, r6, q6⟩
        | false =>
          show wpAny _ X.A (handleBy (.ref a) X.env hds2) _ _ _
          exact ih (hno rfl)
    exact go hh w
  · cases f with
    | next =>
      obtain ⟨σ', H', J', q⟩ := hsp
      exact wpAny_execs_nil ⟨σ', H', J'.ofTry ok, q⟩
    | brk =>
      obtain ⟨σ', H', J', q⟩ := hsp
      exact ⟨σ', H', J'.ofTry ok, q⟩
    | cont =>
      obtain ⟨σ', H', J', q⟩ := hsp
      exact ⟨σ', H', J'.ofTry ok, q⟩
    | ret u =>
      obtain ⟨v, σ', H', J', r, q⟩ := hsp
      exact ⟨v, σ', H', J'.ofTry ok, r, q⟩
end
end Dl
namespace Dl
open PySem PySem.Spec PyProof.Rows L2
variable [TabN]
def isSubC (c x : Str) : Bool := decide (x = "FactsError") || (decide (x = "ValueError") || decide (c = x))
structure ErrK (K : PySem.W.Frag) (cs : List (Str × Str)) : Prop where
  at' : ∀ p ∈ cs, ∀ C, ClsAt K p.1 C → ExcC K C ∧ XfC K C ∧ PySem.W.findIn K (.ref C) p.2 = some none
structure Catcher (K : PySem.W.Frag) (mg : Str → Option Value) (x : Str) (cs : List (Str × Str)) : Prop where
  ex : ∃ (v : V) (u : Value), RelV v u ∧ (∀ u', RelV v u' → u' = u) ∧ (mg x = some u ∨ (mg x = none ∧ bootBuiltins x = some u ∧ x ≠ "__name__")) ∧
    ∀ p ∈ cs, ∀ C, ClsAt K p.1 C → PySem.W.exmOne K (.ref C) u = some (isSubC p.1 x) ∧ PySem.W.kitOne K (.ref C) u = some (isSubC p.1 x)
theorem excO_at {X : Cx} {pins : List (Addr × Obj)} {σ : L2.St} {H : Hp} {s : Shared} {a : Addr} {cls : Value} {d : Option Addr} (I : Inv X pins σ H s) (h : H a = some (ExcO cls d a)) : ∃ (oe : Obj) (vs : Array Value), s.heap.get? a = some oe ∧ Zc cls d oe ∧ oe.data = .fields vs := by
  have x : ObjOk X.prog X.w H s.heap a (.ext fun h => ∃ (oe : Obj) (vs : Array Value), h.get? a = some oe ∧ Zc cls d oe ∧ oe.data = .fields vs) := I.hok a _ h
  exact x.1
def rIsT (K : PySem.W.Frag) : List V → Hp → VK → Prop := fun xs H Q => ∃ (a C dd : Addr) (fs : List (Str × V)) (v : V) (u : Value) (b : Bool), xs = [.ref a, v] ∧ H a = some (ExcO (.ref C) (some dd) a) ∧ H dd = some (.xd fs) ∧ ExcC K C ∧ (∀ u', RelV v u' → u' = u) ∧ PySem.W.kitOne K (.ref C) u = some b ∧ Q (.bl b) H
theorem call_isT {X : Cx} : CallR X (.builtin "isinstance") (rIsT X.K) := by
  intro pins s σ H xs us Q I r h
  obtain ⟨a, C, dd, fs, v, u, b, rfl, hx, hdx, E, hcv, e, q⟩ := h
  cases r with
  | cons rx rr =>
    cases rr with
    | cons rt rr =>
      cases rr
      cases rx
      have ec := hcv _ rt
      subst ec
      obtain ⟨oe, vs, hget, hz, hv⟩ := excO_at I hx
      have hd' : ObjOk X.prog X.w H s.heap dd (.xd fs) := I.hok dd _ hdx
      obtain ⟨mA, hns, _⟩ := hd'
      obtain ⟨od, ho, _⟩ := lookIn_ns hns
      have J : PySem.W.InstAt s.heap a oe C (some od) := ⟨hget, hz.1, by unfold PySem.W.notCls; rw [hv] <;> rfl, by rw [hz.2]; exact ho⟩
      obtain ⟨cd, hcd, _⟩ := PySem.W.any_some E.hd
      exact PySem.W.kia_one (PySem.W.kitx_exc (by rw [hcd]; rfl) E.hg E.hk E.hs E.ha E.hn E.ht E.hm) I.kIn J e (fun z => nomatch z) fun tk => ⟨.bl b, H, I.kept (t' := tk) fun _ _ z => z, rfl, q⟩
theorem pe_catch {X : Cx} {x : Str} {v : V} {u : Value} {pos : Pos} (hg : Gl X x) (r : RelV v u) (h : X.mg x = some u ∨ (X.mg x = none ∧ bootBuiltins x = some u ∧ x ≠ "__name__")) (hd : (x == ("__debug__" : Str)) = false := by decide) : PE X (.Name x pos) (tC v) := by
  rcases h with h | ⟨h1, h2, h3⟩
  · exact pe_glob hg h r hd
  · exact pe_bltn hg h1 h2 r h3 hd
def wIsExc (cs : List (Str × Str)) (x : Str) (w : WE) : WE := fun ρ Q => w ρ fun s ρ1 => match lookD ρ1 s with
  | some (.exc c f _) => (c, f) ∈ cs ∧ Q (.fro (.bl (isSubC c x))) ρ1
  | _ => False
theorem post_exc {K : PySem.W.Frag} {B : Addr → Prop} {ρ' : List Slot} {σ : L2.St} {H H' : Hp} {s : Slot} {v : V} {c f : Str} {d : D} (post : Post K B ρ' σ H H' s v) (e : lookD ρ' s = some (.exc c f d)) : Rep K B ρ' σ H' ∧ RepV K (Av B ρ' σ) H' v (.exc c f d) := by
  match s, post, e with
  | .fro y, post, e => cases e; exact post
  | .own b o, post, e => cases o <;> cases e
  | .var i, post, e =>
    have e : (match ρ'[i]? with
      | some (.own _ o) => some o.d
      | _ => none) = some (.exc c f d) := e
    split at e
    · rename_i b o _; cases o <;> cases e
    · cases e
theorem me_isExc {X : Cx} {x : Str} {cs : List (Str × Str)} {e : Expr} {w : WE} {p p2 pos : Pos} (E : ErrK X.K cs) (T : Catcher X.K X.mg x cs) (hg : Gl X "isinstance") (hm : X.mg "isinstance" = none) (hgx : Gl X x) (he : ME X e w)
    (hd : (x == ("__debug__" : Str)) = false := by decide) (hse : starEach [e, .Name x p2] X.env = (false, eval e X.env) :: starEach [.Name x p2] X.env := by rfl) (hs2 : starEach [.Name x p2] X.env = (false, eval (.Name x p2) X.env) :: starEach [] X.env := by rfl)
    (hpl : (backTo pos (starEach [.Name x p2] X.env)).any (·.1) = false := by rfl) :
    ME X (.Call (.Name "isinstance" p) [e, .Name x p2] [] pos) (wIsExc cs x w) := by
  obtain ⟨v, u, r, ru, hn, T⟩ := T.ex
  refine me_of (pe_callB call_isT hg hm (by rfl) (pa_cons he (pa_cons (pe_catch hgx r hn hd) pa_nil hs2) hse) (by decide) (by decide) hse hpl) fun B ρ σ H Q' Q R hw hq => ?_
  refine ⟨B, ρ, _, R, hw, fun s y ρ1 H1 post sub kp q => ?_⟩
  split at q
  · rename_i c f d hl
    obtain ⟨R1, rv⟩ := post_exc post hl
    cases rv with
    | @exc a C dd _ _ vv _ h1 h2 hc rr =>
      obtain ⟨E1, _, _⟩ := E.at' _ q.1 C hc
      exact ⟨a, C, dd, _, v, u, _, rfl, h1, h2, E1, ru, (T _ q.1 C hc).2, hq _ _ ρ1 H1 (postF R1 (.bl _)) sub kp q.2⟩
  · exact q.elim
theorem pe_xfT {X : Cx} {e : Expr} {te : TE} {pos : Pos} {n : Str} (he : PE X e te) (hb : attributeBase e n X.env (eval e X.env) = eval e X.env := by rfl) :
    PE X (.Attribute e n pos) (fun σ H Q => te σ H fun x H1 => ∃ (a C dd : Addr) (fs : List (Str × V)) (v : V), x = .ref a ∧ H1 a = some (ExcO (.ref C) (some dd) a) ∧ XfC X.K C ∧ PySem.W.findIn X.K (.ref C) n = some none ∧ H1 dd = some (.xd fs) ∧ fs.lookup n = some v ∧ Q v H1) := by
  refine ⟨fun pins s σ H Q I h => ?_⟩
  refine attr_of hb (thn (he.run pins s σ H _ I h) fun u s1 hh => ?_)
  obtain ⟨x, H1, I1, rx, a, C, dd, fs, v, ex, eo, T, hno, ea, l, q⟩ := hh
  subst ex
  obtain rfl : u = Value.ref a := rx
  obtain ⟨oe, vs, ha, hz, hd⟩ := excO_at I1 eo
  have hx : ObjOk X.prog X.w H1 s1.heap dd (.xd fs) := I1.hok dd _ ea
  obtain ⟨mA, hns, hr⟩ := hx
  obtain ⟨od, ho, hl⟩ := lookIn_ns hns
  obtain ⟨u, hu, ru⟩ := RelO.some_of (v := v) (o := mA n) (by rw [← l]; exact hr n)
  have J : PySem.W.InstAt s1.heap a oe C (some od) := ⟨ha, hz.1, by unfold PySem.W.notCls; rw [hd] <;> rfl, by rw [hz.2]; exact ho⟩
  exact HandSPX.exc_get I1.kIn J T.ga T.gg T.exC (PySem.W.findObj_own T.hdC hno rfl (by rw [hl, hu])) (handed_of ru) ⟨v, H1, I1.tok _, ru, q⟩
def wExcF (cs : List (Str × Str)) (n : Str) (w : WE) : WE := fun ρ Q => w ρ fun s ρ1 => match lookD ρ1 s with
  | some (.exc c f v) => (c, f) ∈ cs ∧ f = n ∧ Q (.fro v) ρ1
  | _ => False
theorem me_excF {X : Cx} {cs : List (Str × Str)} {e : Expr} {w : WE} {pos : Pos} {n : Str} (E : ErrK X.K cs) (he : ME X e w) (hb : attributeBase e n X.env (eval e X.env) = eval e X.env := by rfl) : ME X (.Attribute e n pos) (wExcF cs n w) :=
  me_of (pe_xfT he hb) fun B ρ σ H Q' Q R hw hq => by
  refine ⟨B, ρ, _, R, hw, fun s y ρ1 H1 post sub kp q => ?_⟩
  split at q
  · rename_i c f d hl
    obtain ⟨R1, rv⟩ := post_exc post hl
    obtain ⟨hm, rfl, q⟩ := q
    cases rv with
    | @exc a C dd _ _ vv _ h1 h2 hc rr =>
      obtain ⟨_, E1, E2⟩ := E.at' _ hm C hc
      exact ⟨a, C, dd, _, vv, rfl, h1, E1, E2, h2, by simp [List.lookup], hq _ _ ρ1 H1 (postF R1 rr) sub kp q⟩
  · exact q.elim
def noOwnAt (ρ : List Slot) (i : Nat) : Prop := ∀ (b : Bool) (o : O), ρ[i]? ≠ some (.own b o)
theorem own_unset {ρ : List Slot} {σ : L2.St} {i : Nat} {x : Option V} (h : noOwnAt ρ i) (a : Addr) : Own (ρ.set i .nil) (σ.set i x) a ↔ Own ρ σ a := by
  constructor
  · rintro ⟨j, b, o, e1, e2⟩
    rcases getElem?_set_of e1 with ⟨_, z⟩ | ⟨n, z⟩
    · cases z
    · rw [List.getElem?_set_ne n] at e2; exact ⟨j, b, o, z, e2⟩
  · rintro ⟨j, b, o, e1, e2⟩
    have n : i ≠ j := fun z => h b o (by rw [z]; exact e1)
    exact ⟨j, b, o, by rw [List.getElem?_set_ne n]; exact e1, by rw [List.getElem?_set_ne n]; exact e2⟩
theorem Rep.unset {K : PySem.W.Frag} {B : Addr → Prop} {ρ : List Slot} {σ : L2.St} {H : Hp} {i : Nat} (R : Rep K B ρ σ H) (h : noOwnAt ρ i) : Rep K B (ρ.set i .nil) (σ.set i none) H := by
  have av : ∀ a, Av B (ρ.set i .nil) (σ.set i none) a → Av B ρ σ a := fun a z => z.elim (fun z => .inl ((own_unset h a).1 z)) .inr
  refine ⟨by rw [List.length_set, List.length_set]; exact R.len, fun j s e => ?_, fun j k b o b' o' a e1 e2 e3 e4 => ?_, R.btr, fun a z => R.dis a ((own_unset h a).1 z), R.tabs⟩
  · rcases getElem?_set_of e with ⟨_, rfl⟩ | ⟨n, z⟩
    · trivial
    · rw [List.getElem?_set_ne n]
      have w := R.slot j s z
      cases s with
      | nil => trivial
      | fro d => obtain ⟨v, e1, r⟩ := w; exact ⟨v, e1, r.av av⟩
      | own b o => obtain ⟨a, e1, r⟩ := w; exact ⟨a, e1, r.av av⟩
      | var k => exact w
  · rcases getElem?_set_of e1 with ⟨_, z⟩ | ⟨n1, z1⟩
    · cases z
    · rcases getElem?_set_of e2 with ⟨_, z⟩ | ⟨n2, z2⟩
      · cases z
      · rw [List.getElem?_set_ne n1] at e3
        rw [List.getElem?_set_ne n2] at e4
        exact R.inj j k b o b' o' a z1 z2 e3 e4
theorem Fr.unset {H0 : Hp} {L : Nat → Addr → Prop} {ρ : List Slot} {σ : L2.St} {H : Hp} {i : Nat} (F : Fr H0 L ρ σ H) (h : noOwnAt ρ i) : Fr H0 L (ρ.set i .nil) (σ.set i none) H where
  keep := fun a o e n t => F.keep a o e n t
  imm := F.imm
  trk := F.trk
  ownf := fun j o a e1 e2 => by
    rcases getElem?_set_of e1 with ⟨_, z⟩ | ⟨n, z⟩
    · cases z
    · rw [List.getElem?_set_ne n] at e2; exact F.ownf j o a z e2
  lent := fun j a => by
    rw [F.lent j a]
    by_cases n : i = j
    · subst n
      constructor
      · rintro ⟨⟨o, e⟩, _⟩; exact absurd e (h true o)
      · rintro ⟨⟨o, e⟩, _⟩
        rcases getElem?_set_of e with ⟨_, z⟩ | ⟨n, _⟩
        · cases z
        · exact absurd rfl n
    · rw [List.getElem?_set_ne n, List.getElem?_set_ne n]
def endsNil (i : Nat) (KD : DEnds) : DEnds := { nx := fun ρ => noOwnAt ρ i ∧ KD.nx (ρ.set i .nil), rt := KD.rt, bk := fun ρ => noOwnAt ρ i ∧ KD.bk (ρ.set i .nil), ct := fun ρ => noOwnAt ρ i ∧ KD.ct (ρ.set i .nil) }
abbrev Hdl := Str × Option Nat × WS
def hdl : List Hdl → Str → Str → D → DEnds → List Slot → Prop
  | [], _, _, _, _, _ => False
  | (x, i, w) :: r, c, f, v, KD, ρ => if isSubC c x = true then (match i with
      | some i => notLent ρ i ∧ w (endsNil i KD) (ρ.set i (.fro (.exc c f v)))
      | none => w KD ρ) else hdl r c f v KD ρ
def wTry (cs : List (Str × Str)) (wb : WSX) (l : List Hdl) : WS := fun KD ρ => wb (fun c f v ρ' => (c, f) ∈ cs ∧ hdl l c f v KD ρ') KD ρ
inductive HdsD (X : Cx) (cs : List (Str × Str)) : List ExceptHandler → List Hdl → Prop
  | nil : HdsD X cs [] []
  | as {x n : Str} {i : Nat} {w : WS} {b₀ : Stmt} {suite : List Stmt} {np pos' : Pos} {hds : List ExceptHandler} {l : List Hdl} (hg : Gl X x) (hd : (x == ("__debug__" : Str)) = false) (T : Catcher X.K X.mg x cs) (hi : X.N[i]? = some n) (hln : X.env.kindOf n = some .local)
      (hsu : ∀ (a : Addr) (pn : List (Addr × Obj)), MSs (X.suite a pn) (b₀ :: suite) w) (r : HdsD X cs hds l) : HdsD X cs (.ExceptHandler (some (.Name x np)) (some n) (b₀ :: suite) pos' :: hds) ((x, some i, w) :: l)
  | only {x : Str} {w : WS} {b₀ : Stmt} {suite : List Stmt} {np pos' : Pos} {hds : List ExceptHandler} {l : List Hdl} (hg : Gl X x) (hd : (x == ("__debug__" : Str)) = false) (T : Catcher X.K X.mg x cs)
      (hsu : ∀ (a : Addr) (pn : List (Addr × Obj)), MSs (X.suite a pn) (b₀ :: suite) w) (r : HdsD X cs hds l) : HdsD X cs (.ExceptHandler (some (.Name x np)) none (b₀ :: suite) pos' :: hds) ((x, none, w) :: l)
theorem HdsD.keep {X : Cx} {cs : List (Str × Str)} {hds : List ExceptHandler} {l : List Hdl} (h : HdsD X cs hds l) : ∃ l', HdsK X hds l' ∧
    ∀ (c f : Str) (v : D) (KD : DEnds) (ρ : List Slot) (B : Addr → Prop) (H0 : Hp) (L : Nat → Addr → Prop) (D : Ends) (σ : L2.St) (H : Hp) (cls : Value) (d : Option Addr), Rep X.K B ρ σ H → Fr H0 L ρ σ H → EndsOk X.K B H0 L KD D → (c, f) ∈ cs →
      ExcAt X.K (Av B ρ σ) H cls d c f v → hdl l c f v KD ρ → wKeep X.K (fun _ _ _ _ => False) D l' cls d σ H := by
  induction h with
  | nil => exact ⟨[], .nil, fun c f v KD ρ B H0 L D σ H cls d _ _ _ _ _ q => q⟩
  | @as x n i w b₀ suite np pos' hds l hg hd T hi hln hsu r ih =>
    obtain ⟨l', h1, h2⟩ := ih
    obtain ⟨y, u, ru, _, hn, T⟩ := T.ex
    refine ⟨(u, some i, sOf X.K w) :: l', .as ⟨hg, hd, hn⟩ hi hln hsu h1, fun c f v KD ρ B H0 L D σ H cls d R F en hm ea q => ?_⟩
    obtain ⟨C, dd, xv, rfl, rfl, hc, hx, rv⟩ := id ea
    refine ⟨_, (T _ hm C hc).1, fun hb a na => ?_, fun hb => h2 c f v KD ρ B H0 L D σ H _ _ R F en hm ea ?_⟩
    · have q : if isSubC c x = true then notLent ρ i ∧ w (endsNil i KD) (ρ.set i (.fro (.exc c f v))) else hdl l c f v KD ρ := q
      rw [if_pos hb] at q
      have e1 := Ex.new (o := ExcO (.ref C) (some dd) a) na
      have R1 := R.ex (B' := B) e1 fun a z => .inl z
      have F1 := F.step (e1.kp (S := Own ρ σ)) (Sub.refl ρ)
      have ra : RepV X.K (Av B ρ σ) (L2.upd H a (ExcO (.ref C) (some dd) a)) (.ref a) (.exc c f v) :=
        .exc upd_same (by rw [upd_ne (ne_of_none hx na)]; exact hx) hc (rv.mono (S := fun _ => False) e1.kp (fun _ z => z.elim) fun x z => .inl z)
      exact ⟨B, H0, L, _, endsNil i KD, R1.putF ra q.1, F1.putF q.1, q.2, ⟨fun ρ' σ' H' R' F' z => en.nx _ _ _ (R'.unset z.1) (F'.unset z.1) z.2, fun ρ' σ' H' R' F' z => en.bk _ _ _ (R'.unset z.1) (F'.unset z.1) z.2, fun ρ' σ' H' R' F' z => en.ct _ _ _ (R'.unset z.1) (F'.unset z.1) z.2, en.rt⟩⟩
    · have q : if isSubC c x = true then notLent ρ i ∧ w (endsNil i KD) (ρ.set i (.fro (.exc c f v))) else hdl l c f v KD ρ := q
      rw [if_neg (by rw [hb]; decide)] at q
      exact q
  | @only x w b₀ suite np pos' hds l hg hd T hsu r ih =>
    obtain ⟨l', h1, h2⟩ := ih
    obtain ⟨y, u, ru, _, hn, T⟩ := T.ex
    refine ⟨(u, none, sOf X.K w) :: l', .only ⟨hg, hd, hn⟩ hsu h1, fun c f v KD ρ B H0 L D σ H cls d R F en hm ea q => ?_⟩
    obtain ⟨C, dd, xv, rfl, rfl, hc, hx, rv⟩ := id ea
    refine ⟨_, (T _ hm C hc).1, fun hb a na => ?_, fun hb => h2 c f v KD ρ B H0 L D σ H _ _ R F en hm ea ?_⟩
    · have q : if isSubC c x = true then w KD ρ else hdl l c f v KD ρ := q
      rw [if_pos hb] at q
      have e1 := Ex.new (o := ExcO (.ref C) (some dd) a) na
      exact ⟨B, H0, L, ρ, KD, R.ex (B' := B) e1 fun a z => .inl z, F.step (e1.kp (S := Own ρ σ)) (Sub.refl ρ), q, ⟨en.nx, en.bk, en.ct, en.rt⟩⟩
    · have q : if isSubC c x = true then w KD ρ else hdl l c f v KD ρ := q
      rw [if_neg (by rw [hb]; decide)] at q
      exact q
theorem ms_try {X : Cx} {cs : List (Str × Str)} {body : List Stmt} {h₀ : ExceptHandler} {hds : List ExceptHandler} {wb : WSX} {l : List Hdl} {pos : Pos} (hs : X.stack = X.env :: X.outer) (hf : X.env.frame = some X.env.locals) (hex : X.ex = []) (hN : X.N.Nodup)
    (hb : ∀ (W : WX) (pn : List (Addr × Obj)) (xe : Value → Shared → Prop), Takes (X.tr pn xe) W → PassesOwn (model X.prog X.w) X.A X.env xe → MXs (X.tr pn xe) W body wb)
    (hh : HdsD X cs (h₀ :: hds) l) : MS X (.Try body (h₀ :: hds) [] [] pos) (wTry cs wb l) := by
  obtain ⟨l', h1, h2⟩ := hh.keep
  refine PS_weak (ps_try_keep (Wout := fun _ _ _ _ => False) (tb := fun W => sOfX X.K W wb) hs hf hex hN (fun _ _ x => by
    obtain ⟨_, _, _, _, _, _, _, _, _, _, _, _, _, _, _, _, z⟩ := x
    exact z.elim) hb h1) fun D σ H ⟨B, H0, L, ρ, KD, R, F, hw, en⟩ => ?_
  exact ⟨B, H0, L, ρ, KD, _, R, F, hw, en, fun c f v cls d ρ' σ' H' R' F' ea q => h2 c f v KD ρ' B H0 L D σ' H' cls d R' F' en q.1 ea q.2⟩
end Dl
namespace Dl
open PySem PySem.Spec PyProof.Rows L2
variable [TabN]
section
variable {X : Cx} {pins : List (Addr × Obj)} {σ : L2.St} {H : Hp} {s : Shared}
theorem lam_makeN {c P : Addr} {params : Arguments} {body : Expr} {scope : Scope} {pos : Pos} {E : Value → Shared → Prop} {Q : Value → Shared → Prop} (I : Inv X pins σ H s) (TB : LamX.TabB X.base X.mg c P) (hcode : X.env.code = .ref c)
    (hm : TabN.nm P = some (X.env.qual ++ "<lambda>")) (hT : TabsN H) (hdef : defaultsOf params X.env = ([], [])) (hfree : ∀ y ∈ scope.names, y.2 = .free → ∃ c, X.env.cells.lookup y.1 = some c)
    (h : ∀ (f c' : Addr) (pm ctv : Value) (H1 : Hp) (s' : Shared), Inv X pins σ H1 s' → Kp (fun _ => False) H H1 →
      s'.heap.get? f = some (PySem.W.kla_obj "<lambda>" (X.env.qual ++ "<lambda>") params body scope (cloFrom X.env.cells scope.names []) pm c' ctv) → H1 f = none → f ∉ frs X.stack → H1 c' = some (LamX.CodeO c' (X.env.qual ++ "<lambda>")) → Q (.ref f) s') :
    wpAny (model X.prog X.w) X.A (eval (.Lambda params body scope pos) X.env) Q E s := by
  obtain ⟨ps, hP, ht, ha⟩ := hT _ _ hm
  refine PySem.W.kla_eval hdef ?_
  have bP : s.heap.BuiltinsAt X.mg P := TB.bm.keeps I.bk
  have hP' : s.heap.get? P = some { cls := .none, data := .fields ps } := I.hok P _ hP
  have nofr : ∀ f, s.heap.objs.size ≤ f → f ∉ frs X.stack := fun f hf z => by
    rcases List.mem_cons.mp (I.stkSub _ z) with e | e
    · have h1 := I.lt
      rw [← e] at h1
      exact Nat.lt_irrefl _ (Nat.lt_of_lt_of_le h1 hf)
    · exact I.nofs hf e
  cases hc : codeAmong pos ps.toList with
  | none =>
    refine PySem.W.kla_makeFunction (mg := X.mg) (c := c) (P := P) (ps := ps) (closure_ok hfree) I.ok.glob (I.mod.glob.keeps I.bk) hcode (TB.code.keeps I.bk) hP' ht hc TB.gP bP fun c' ctv h' tk hx hge hlt hrec htb => ?_
    obtain ⟨c2, oc, vs, t, e2, hoc, hd, hv⟩ := hrec
    cases e2
    have hsz : s.heap.objs.size ≤ h'.objs.size := Nat.le_trans hge (Nat.le_of_lt hlt)
    have nC : H c' = none := I.hok.fresh hge
    have nPc : P ≠ c' := ne_of_none hP nC
    have I1 := LamX.inv_table (t' := tk) (more := #[rawInt pos.line, rawInt pos.col, .ref c']) (h' := h'.push (PySem.W.kla_obj "<lambda>" (X.env.qual ++ "<lambda>") params body scope (cloFrom X.env.cells scope.names []) ((X.mg "__name__").getD .none) c' ctv)) I hP
      (fun b o hb e => Heap.get?_push_of_some _ (hx b o hb e)) (Heap.get?_push_of_some _ htb) hge ⟨oc, vs, t, Heap.get?_push_of_some _ hoc, hd, hv⟩
    have stay : ∀ b o, H b = some o → ¬ isTbl o → L2.upd (L2.upd H P (.tbl (ps ++ #[rawInt pos.line, rawInt pos.col, .ref c']))) c' (LamX.CodeO c' (X.env.qual ++ "<lambda>")) b = some o := fun b o e n => by
      rw [upd_ne (ne_of_none e nC), upd_ne (fun z => by rw [z, hP] at e; cases e; exact n trivial)]
      exact e
    have codeN : ∀ c q, ¬ isTbl (LamX.CodeO c q) := fun c q z => z
    have eL : (ps ++ #[rawInt pos.line, rawInt pos.col, .ref c']).toList = ps.toList ++ [rawInt pos.line, rawInt pos.col, .ref c'] := by simp
    have kp : Kp (fun _ => False) H (L2.upd (L2.upd H P (.tbl (ps ++ #[rawInt pos.line, rawInt pos.col, .ref c']))) c' (LamX.CodeO c' (X.env.qual ++ "<lambda>"))) := by
      refine ⟨⟨fun b o e _ t => stay b o e t, fun b o e i => stay b o e (by cases o <;> first | exact fun z => z | exact i.elim)⟩, fun b e => ?_, fun tb P' q' hq' => ?_⟩
      · by_cases h1 : b = c'
        · rw [h1, upd_same]; exact nofun
        · rw [upd_ne h1]
          by_cases h2 : b = P
          · rw [h2, upd_same]; exact nofun
          · rw [upd_ne h2]; exact e
      · by_cases hb : P' = P
        · subst hb
          rw [hm] at hq'
          cases hq'
          refine ⟨_, by rw [upd_ne nPc, upd_same], by rw [eL]; exact PySem.TriplesOk_snoc _ _ _ _ ht, fun p' cv hcv => ?_⟩
          rw [eL] at hcv
          rcases LamX.among_app _ ht hcv with z | z
          · obtain ⟨c0, e1, e2⟩ := ha p' cv z
            exact ⟨c0, e1, stay _ _ e2 (codeN _ _)⟩
          · exact ⟨c', z, upd_same⟩
        · obtain ⟨ps', a1, a2, a3⟩ := tb P' q' hq'
          refine ⟨ps', by rw [upd_ne (ne_of_none a1 nC), upd_ne hb]; exact a1, a2, fun p' cv hcv => ?_⟩
          obtain ⟨c0, e1, e2⟩ := a3 p' cv hcv
          exact ⟨c0, e1, stay _ _ e2 (codeN _ _)⟩
    refine h h'.objs.size c' ((X.mg "__name__").getD .none) ctv _ _ I1 kp (Heap.get?_push_size _ rfl) ?_ (nofr _ hsz) upd_same
    have n1 : h'.objs.size ≠ c' := Nat.ne_of_gt hlt
    have n2 : h'.objs.size ≠ P := Nat.ne_of_gt (Nat.lt_of_lt_of_le (Heap.lt_size hP') hsz)
    rw [upd_ne n1, upd_ne n2]
    exact I.hok.fresh hsz
  | some cv =>
    obtain ⟨c', e, hco⟩ := ha pos cv hc
    subst e
    refine PySem.W.kla_makeFunctionHit (mg := X.mg) (c := c) (P := P) (ps := ps) (closure_ok hfree) I.ok.glob (I.mod.glob.keeps I.bk) hcode (TB.code.keeps I.bk) hP' ht hc bP fun ctv h' tk hx hsz => ?_
    have I1 : Inv X pins σ H { s with heap := h'.push (PySem.W.kla_obj "<lambda>" (X.env.qual ++ "<lambda>") params body scope (cloFrom X.env.cells scope.names []) ((X.mg "__name__").getD .none) c' ctv), toks := tk } := I.kept fun b o e => Heap.get?_push_of_some _ (hx b o e)
    exact h h'.objs.size c' ((X.mg "__name__").getD .none) ctv H _ I1 Kp.refl (Heap.get?_push_size _ rfl) (I.hok.fresh hsz) (nofr _ hsz) hco
end
section
variable {X : Cx} {pins : List (Addr × Obj)} {σ : L2.St} {H HZ : Hp} {s s1 : Shared}
theorem pe_actX {CXg : CXT} {Eg : XK} {Ng : List Str} {qg : Str} {sg : Scope} {g f c' : Addr} {cdg pm ctv : Value} {params : Arguments} {body : Expr} {scope : Scope} {k i : Nat} {a : Str} {pn : List (Addr × Obj)} {xe : Value → Shared → Prop} {W : WX} {t : XK → TE} {p1 p2 : Pos}
    (I : Inv X pins σ H s) (L : LamX.LamS X.env.scope scope) (hf : s.heap.get? f = some (PySem.W.kla_obj "<lambda>" (X.env.qual ++ "<lambda>") params body scope (cloFrom X.env.cells scope.names []) pm c' ctv)) (hfn : H f = none) (hfr : f ∉ frs X.stack)
    (hbind : bindArgs (PySem.W.kla_fn "<lambda>" (X.env.qual ++ "<lambda>") params body scope (cloFrom X.env.cells scope.names []) pm (.ref c') ctv) ⟨[], []⟩ = pure [])
    (tk : Takes ((cxOf CXg X.prog X.w X.K X.mg X.base Ng qg sg g cdg X.A X.stack s H Eg).tr pn xe) W) (hr : Room (k + 1) (X.A.deeper (envOfC qg sg s.heap.objs.size g cdg))) (hgu : X.A.guards = some [])
    (hbody : ∀ (A : Around) (outer : List Env) (s : Shared) (H : Hp) (E : XK), Room k (A.deeper (LamX.lamEnv X scope s.heap.objs.size f c')) → A.guards = some [] → PE (LamX.lamCx X A outer s H E scope f c') body (t E))
    (hN : Ng[i]? = some a) (hv : Vis sg a) (hd : (a == ("__debug__" : Str)) = false := by decide) (hcd : (a == ("__classdict__" : Str)) = false := by decide) :
    PE ((cxOf CXg X.prog X.w X.K X.mg X.base Ng qg sg g cdg X.A X.stack s H Eg).tr pn xe) (.Call (.Name a p1) [] [] p2)
      (fun σZ HZ Q => σZ[i]? = some (some (.ref f)) ∧ HZ c' = some (LamX.CodeO c' (X.env.qual ++ "<lambda>")) ∧ t (L2.WE W σZ) σ HZ Q) := by
  refine ⟨fun pinsZ sZ σZ HZ Q IZ h => ?_⟩
  obtain ⟨hs, hc, ht⟩ := h
  refine wpAny_Call_Name_kw (thn ((pe_var (pos := p1) (i := i) hN hv hd hcd).run pinsZ sZ σZ HZ (fun v H1 => v = .ref f ∧ H1 = HZ) IZ ⟨.ref f, hs, rfl, rfl⟩) fun u s1 ⟨v, H1, I1, r1, q1⟩ => ?_)
  obtain ⟨ev, eH⟩ := q1
  subst ev
  rw [eH] at I1
  obtain rfl : u = Value.ref f := r1
  have of1 : s1.heap.get? f = some (PySem.W.kla_obj "<lambda>" (X.env.qual ++ "<lambda>") params body scope (cloFrom X.env.cells scope.names []) pm c' ctv) := I1.base.keep f _ hf hfn hfr (fun z => nomatch (show f ∈ ([] : List Addr) from z))
  refine PySem.W.callWith_F0 ⟨_, _, _, _, of1⟩ ?_
  have un : Un (frs X.stack) [] H HZ s.heap s1.heap := I1.base
  obtain ⟨⟨oc, vs, t', hoc, hdc, hvc⟩, _, _⟩ := I1.hok c' _ hc
  have rc : codeAny (model X.prog X.w) (X.A.deeper (envOfC qg sg s.heap.objs.size g cdg)) (.call (.ref f) ⟨[], []⟩) (CR (L2.CX X.prog X.w) (envOfC qg sg s.heap.objs.size g cdg :: X.stack) X.prog X.w HZ s1 Q (L2.WE W σZ)) s1 := by
    refine PySem.W.kla_callFunE hr.depth of1 rfl L.co L.gen rfl ⟨c', oc, vs, t', rfl, hoc, hdc, hvc⟩ ?_
    rw [hbind]
    refine wpAny_pure (wpAny_newFunctionEnv (fun y hy => (L.own y hy).2) (fun y hy => absurd hy (by simp)) (fun h₁ hns hsb => ⟨I1.nolimit.fresh _ hsb, ?_⟩) L.kind)
    show codeAny _ _ (.expr body (LamX.lamEnv X scope s1.heap.objs.size f c')) _ _
    have kp : ∀ b o, s1.heap.get? b = some o → h₁.get? b = some o := fun b o e => hsb.extBut b o (Nat.ne_of_lt (Heap.lt_size e)) (Heap.get?_push_of_some _ e)
    have J : Inv (LamX.lamCx X (X.A.deeper (envOfC qg sg s.heap.objs.size g cdg)) (envOfC qg sg s.heap.objs.size g cdg :: X.stack) s1 HZ (L2.WE W σZ) scope f c') [] σ HZ { s1 with heap := h₁, toks := s1.toks + ([] : List (Str × Value)).length } :=
      LamX.lam_start2 I L I1.env0 hr.hd un hns kp
    refine PySem.W.kla_codeExpr (wpAny_mono ((hbody _ _ s1 HZ _ (hr.deeper _) hgu).run [] _ _ HZ Q J ht) (fun v s' hq => ?_) fun e s' hq => hq)
    obtain ⟨w', H', J', rv, q⟩ := hq
    exact ⟨w', H', J'.os, J'.bare, J'.base, J'.hok, rv, q⟩
  refine wpAny_call (codeAny_mono rc fun r s' hq => ?_)
  cases r with
  | error e => exact passAt tk σZ pinsZ HZ s1 e s' I1 hq
  | ok fl =>
    cases fl with
    | ret u => exact I1.after hq
    | next => exact False.elim hq
    | brk => exact False.elim hq
    | cont => exact False.elim hq
end
end Dl
namespace Dl
open PySem PySem.Spec PyProof.Rows L2
variable [TabN]
abbrev LamD := (Slot → Prop) → XD → Prop
def wAct (i : Nat) (d : D) (L : LamD) : WEX := fun ex ρ Q => ρ[i]? = some (.fro d) ∧ L (fun s => match s with
  | .fro u => Q (.fro u) ρ
  | .own _ o => Q (.own false o) ρ
  | _ => False) (fun c f v => ex c f v ρ)
def capt (ρ : List Slot) : List Nat → (List D → List Slot → Prop) → Prop
  | [], k => k [] ρ
  | j :: js, k => match ρ[j]? with
    | some (.fro d) => capt ρ js fun ds ρ' => k (d :: ds) ρ'
    | some (.own false o) => capt (ρ.set j (.fro o.d)) js fun ds ρ' => k (o.d :: ds) ρ'
    | _ => False
def viewL : List Nat → List D → List Slot → List Slot
  | j :: js, d :: ds, ρ => viewL js ds (ρ.set j (.fro d))
  | _, _, ρ => ρ
def lamOf (wb : WEX) (n : Nat) (js : List Nat) (ds : List D) : LamD := fun Qn Qx => wb (fun c f v _ => Qx c f v) (viewL js ds (List.replicate n .nil)) fun s _ => match s with
  | .fro d => Qn (.fro d)
  | .own _ o => Qn (.own false o)
  | _ => False
def wLam (C : LamD → (Slot → Prop) → Prop) (js : List Nat) (wb : WEX) : WE := fun ρ Q => capt ρ js fun ds ρ1 => C (lamOf wb ρ1.length js ds) fun s => match s with
  | .fro d => Q (.fro d) ρ1
  | .own _ o => Q (.own false o) ρ1
  | _ => False
section
variable {K : PySem.W.Frag} {B : Addr → Prop} {σ : L2.St} {H : Hp}
theorem capt_ok : ∀ {js : List Nat} {ρ : List Slot} {k : List D → List Slot → Prop}, Rep K B ρ σ H → capt ρ js k →
    ∃ ds vs ρ', k ds ρ' ∧ Rep K B ρ' σ H ∧ Sub ρ' ρ ∧ RepL K (Av B ρ' σ) H vs ds ∧ js.map (fun j => σ[j]?) = vs.map fun v => some (some v)
  | [], ρ, k, R, h => ⟨[], [], ρ, h, R, Sub.refl ρ, .nil, rfl⟩
  | j :: js, ρ, k, R, h => by
    unfold capt at h
    split at h
    · rename_i d e
      obtain ⟨ds, vs, ρ', hk, R', s', r, hv⟩ := capt_ok R h
      obtain ⟨v, e1, rv⟩ := R.slot j _ e
      refine ⟨d :: ds, v :: vs, ρ', hk, R', s', .cons (rv.av fun a z => z.elim (fun z => .inl (s'.own a z)) .inr) r, by rw [List.map_cons, List.map_cons, hv, e1]⟩
    · rename_i o e
      obtain ⟨R1, s1, a, ea, ra⟩ := R.freeze e
      obtain ⟨ds, vs, ρ', hk, R', s', r, hv⟩ := capt_ok R1 h
      exact ⟨_, .ref a :: vs, ρ', hk, R', s1.trans s', .cons (ra.av fun a z => z.elim (fun z => .inl (s'.own a z)) .inr) r, by rw [List.map_cons, List.map_cons, hv, ea]⟩
    · exact h.elim
def noOwns (ρ : List Slot) : Prop := ∀ (i : Nat) (b : Bool) (o : O), ρ[i]? ≠ some (.own b o)
theorem noOwns.own {ρ : List Slot} (h : noOwns ρ) {a : Addr} (z : Own ρ σ a) : False := by
  obtain ⟨i, b, o, e, _⟩ := z
  exact h i b o e
theorem view_ok : ∀ {js : List Nat} {ds : List D} {vs : List V} {ρ : List Slot}, Rep K B ρ σ H → noOwns ρ → RepL K B H vs ds → js.map (fun j => σ[j]?) = vs.map (fun v => some (some v)) → Rep K B (viewL js ds ρ) σ H ∧ noOwns (viewL js ds ρ)
  | [], _, _, ρ, R, no, _, _ => ⟨R, no⟩
  | j :: js, [], _, ρ, R, no, _, _ => ⟨R, no⟩
  | j :: js, d :: ds, vs, ρ, R, no, r, e => by
    cases r with
    | @cons v vs' _ _ r1 r2 =>
      rw [List.map_cons, List.map_cons] at e
      obtain ⟨e1, e2⟩ := List.cons.inj e
      have no' : noOwns (ρ.set j (.fro d)) := fun i b o z => by
        rcases getElem?_set_of z with ⟨_, z⟩ | ⟨_, z⟩
        · cases z
        · exact no i b o z
      refine view_ok (ρ := ρ.set j (.fro d)) ?_ no' r2 e2
      refine ⟨by rw [List.length_set]; exact R.len, fun i s z => ?_, fun i k b o b' o' a z => absurd z (no' i b o), R.btr, fun a z => (no'.own z).elim, R.tabs⟩
      rcases getElem?_set_of z with ⟨rfl, rfl⟩ | ⟨_, z⟩
      · exact ⟨v, e1, r1.av fun a z => z.elim (fun z => (no'.own z).elim) id⟩
      · have w := R.slot i s z
        cases s with
        | nil => trivial
        | fro d => obtain ⟨v, e1, r⟩ := w; exact ⟨v, e1, r.av fun a z => z.elim (fun z => (no'.own z).elim) .inr⟩
        | own b o => exact absurd z (no i b o)
        | var k => exact w
theorem nils_ok (hb : ∀ a, B a → H a ≠ none) (tb : TabsN H) {n : Nat} (hn : n = σ.length) : Rep K B (List.replicate n .nil) σ H ∧ noOwns (List.replicate n .nil) := by
  have no : noOwns (List.replicate n .nil) := fun i b o z => by
    rw [List.getElem?_replicate] at z
    split at z <;> cases z
  refine ⟨⟨by rw [List.length_replicate]; exact hn, fun i s z => ?_, fun i k b o b' o' a z => absurd z (no i b o), hb, fun a z => (no.own z).elim, tb⟩, no⟩
  rw [List.getElem?_replicate] at z
  split at z
  · cases z; trivial
  · cases z
end
structure CalleeL (P : Program) (w : World) (K : PySem.W.Frag) (mg : Str → Option Value) (base : Heap) (k : Nat) (x a : Str) (C : LamD → (Slot → Prop) → Prop) : Prop where
  ex : ∃ (g : Addr) (fd : FuncData) (st : Stmt) (N : List Str), Fun K x x st g fd ∧ FnScope N [a] (defScope st) ∧ N[0]? = some a ∧ Vis (defScope st) a ∧ mg x = some (.ref g) ∧ PySem.W.keepIn K (.ref g) = true ∧ L2.Binds K fd [a] [] ∧
    ∀ (cdv : Value) (A : Around) (outer : List Env) (s : Shared) (H : Hp) (E : XK), Room k (A.deeper (envOfC x (defScope st) s.heap.objs.size g cdv)) → (A.deeper (envOfC x (defScope st) s.heap.objs.size g cdv)).guards = some [] → ∀ (d : D) (L : LamD),
      (∀ (W : WX) (pn : List (Addr × Obj)) (xe : Value → Shared → Prop) (p1 p2 : Pos), Takes ((bodyCx CX0 P w K mg base N x st g cdv A outer s H E).tr pn xe) W → MEX ((bodyCx CX0 P w K mg base N x st g cdv A outer s H E).tr pn xe) W (.Call (.Name a p1) [] [] p2) (wAct 0 d L)) →
      ∃ wb, MSs (bodyCx CX0 P w K mg base N x st g cdv A outer s H E).nox (defBody st) wb ∧ ∀ Q : Slot → Prop, C L Q → wb (endsOf [.fro d] fun s _ => Q s) ([.fro d] ++ List.replicate (N.length - 1) .nil)
structure LamMk (X : Cx) : Prop where
  ex : ∃ (c P : Addr), LamX.TabB X.base X.mg c P ∧ X.env.code = .ref c ∧ TabN.nm P = some (X.env.qual ++ "<lambda>")
theorem me_lam {X : Cx} {k : Nat} {x a : Str} {C : LamD → (Slot → Prop) → Prop} {js : List Nat} {wb : WEX} {params : Arguments} {body : Expr} {scope : Scope} {p lpos pos : Pos} (c : CalleeL X.prog X.w X.K X.mg X.base (k + 1) x a C) (mk : LamMk X) (hr : Room (k + 2) X.A) (hgu : X.A.guards = some [])
    (hg : Gl X x) (L : LamX.LamS X.env.scope scope) (hdef : defaultsOf params X.env = ([], []))
    (hbind : ∀ (q : Str) (cl : List (Str × Addr)) (pm cv ctv : Value), bindArgs (PySem.W.kla_fn "<lambda>" q params body scope cl pm cv ctv) ⟨[], []⟩ = pure [])
    (hbody : ∀ (A : Around) (outer : List Env) (s : Shared) (H : Hp) (E : XK) (f c' : Addr), Room k (A.deeper (LamX.lamEnv X scope s.heap.objs.size f c')) → (A.deeper (LamX.lamEnv X scope s.heap.objs.size f c')).guards = some [] →
      Takes (LamX.lamCx X A outer s H E scope f c') (fun cls d _ H => E cls d H) → MEX (LamX.lamCx X A outer s H E scope f c') (fun cls d _ H => E cls d H) body wb)
    (hdb : (x == ("__debug__" : Str)) = false := by decide) (hd : (a == ("__debug__" : Str)) = false := by decide) (hcd : (a == ("__classdict__" : Str)) = false := by decide) :
    ME X (.Call (.Name x p) [.Lambda params body scope lpos] [] pos) (wLam C js wb) := by
  obtain ⟨g, fd, st, N, F, S, hN0, hva, hm, hk, hb, hG⟩ := c.ex
  obtain ⟨cc, P, TB, hcode, hnm⟩ := mk.ex
  obtain ⟨oc, od, kV, doc, pm, an, cdv, ct, osl, rfl, lk, hcg⟩ := F.ex
  refine ⟨fun pins s σ H Q I h => ?_⟩
  obtain ⟨B, ρ, Q', R, hw, hq⟩ := h
  obtain ⟨ds, vs, ρ1, hC, R1, s1, r, hv⟩ := capt_ok R hw
  refine wpAny_Call_Name_kw (ld_glob I hg hm ?_ hdb)
  refine PySem.W.callWith_K (h₀ := X.base) I.ok.mod.kin hk ?_ (by rfl) (by rfl)
  show wpAny _ _ (spliced ((false, eval (.Lambda params body scope lpos) X.env) :: backTo pos (starEach [] X.env))) _ _ s
  refine Calls.spliced_cons (lam_makeN I TB hcode hnm R1.tabs hdef (L.has I.ok) fun f c' pm' ctv H1 s' I1 kp hf hfn hfr hco => ?_)
  refine Calls.spliced_nil ⟨I1.kIn, ?_⟩
  have R2 := R1.same kp fun a z => .inl z
  have r2 : RepL X.K (Av B ρ1 σ) H1 vs ds := r.mono kp (fun _ z => z.elim) fun x z => .inl z
  -- the lambda as data
  let d : D := .fn f c' (X.env.qual ++ "<lambda>") vs ds
  have rf : RepL X.K (Av B ρ1 σ) H1 [.ref f] [d] := .one (.fn hco r2)
  have Rc : Rep X.K (Av B ρ1 σ) ([d].map .fro) ([V.ref f].map some) H1 := repL_rep (fun a z => R2.av_trk z) R2.tabs rf
  have af : allFro ([d].map Slot.fro) := allFro_map [d]
  have rc : codeAny (model X.prog X.w) X.A (.call (.ref g) ⟨[.ref f], []⟩) (CR CX0 X.stack X.prog X.w H1 s' Q E0) s' := by
    refine LamX.run_ofS (N := N) (ps := [a]) (us := [.ref f]) (vs := [.ref f]) lk hcg S hr I1.env0 (hb s' [.ref f] I1.kIn rfl) (.cons rfl .nil) rfl fun hr' => ?_
    have hact : ∀ (W : WX) (pn : List (Addr × Obj)) (xe : Value → Shared → Prop) (p1 p2 : Pos), Takes ((bodyCx CX0 X.prog X.w X.K X.mg X.base N x st g cdv X.A X.stack s' H1 E0).tr pn xe) W → MEX ((bodyCx CX0 X.prog X.w X.K X.mg X.base N x st g cdv X.A X.stack s' H1 E0).tr pn xe) W (.Call (.Name a p1) [] [] p2) (wAct 0 d (lamOf wb ρ1.length js ds)) := fun W pn xe p1 p2 tk => by
      -- a() means what the lambda's body means
      refine PE_weak (pe_actX (i := 0) (k := k) (t := fun E => tOfX X.K (fun cls d _ H => E cls d H) wb) I1 L hf hfn hfr (hbind _ _ _ _ _) tk hr' hgu (fun A outer s H E hr2 hgu2 => ?_) hN0 hva hd hcd) fun σZ HZ QZ hz => ?_
      · exact hbody A outer s H E f c' hr2 hgu2 (takes_of rfl rfl rfl rfl)
      · obtain ⟨Bz, ρz, Qz, ex, Rz, ⟨h0, hL⟩, hqz, hxz⟩ := hz
        obtain ⟨v, e0, rv⟩ := Rz.slot 0 _ h0
        have rv : RepV X.K (Av Bz ρz σZ) HZ v (.fn f c' (X.env.qual ++ "<lambda>") vs ds) := rv
        cases rv with
        | fn hc rd =>
          obtain ⟨V0, no0⟩ := nils_ok (K := X.K) (σ := σ) (fun a z => Rz.av_trk z) Rz.tabs (n := ρ1.length) R1.len
          obtain ⟨V1, no1⟩ := view_ok (js := js) V0 no0 rd hv
          refine ⟨e0, hc, Av Bz ρz σZ, _, _, _, V1, hL, fun s v ρ' H' post _ k3 h => ?_, fun c f v cls d ρ' H' R' _ k3 ea q => ?_⟩
          · have e : Kp (fun _ => False) HZ H' := k3.mono fun a z => no1.own z
            match s, post, h with
            | .fro d, post, h => exact hqz _ _ ρz H' (postF (Rz.same e fun a z => .inl z) (post.2.av fun a z => .inr z)) (Sub.refl ρz) (e.mono fun _ z => z.elim) h
            | .own b o, ⟨a, hv, n, nb, R', q⟩, h =>
              subst hv
              refine hqz _ _ ρz H' (postO (b := false) n (fun z => Rz.btr a z n) (Rz.same e fun x z => z.elim .inl fun z => .inr ⟨by rw [z]; exact n, by rw [z]; exact q.trk⟩) (q.av fun x z => ?_)) (Sub.refl ρz) (e.mono fun _ z => z.elim) h
              rcases z with z | z | z
              · exact .inr (.inl (.inl z))
              · exact .inr (.inl (.inr z))
              · exact .inr (.inr z)
          · have e : Kp (fun _ => False) HZ H' := k3.mono fun a z => no1.own z
            exact hxz c f v cls d ρz H' (Rz.same e fun a z => .inl z) (Sub.refl ρz) (e.mono fun _ z => z.elim) (ea.av fun a z => .inr z) q
    obtain ⟨w, hwb, hCw⟩ := hG cdv X.A X.stack s' H1 E0 hr' hgu d (lamOf wb ρ1.length js ds) hact
    refine ⟨_, hwb.nox, ?_⟩
    have hw := hCw _ hC
    have hst : L2.start N [V.ref f] = [V.ref f].map some ++ List.replicate (N.length - 1) none := rfl
    obtain ⟨R0, ow⟩ := Rc.start (n := N.length - 1)
    obtain ⟨F0, en⟩ := body_start (Q' := fun s _ => match s with
      | .fro d => Q' (.fro d) ρ1
      | .own _ o => Q' (.own false o) ρ1
      | _ => False) (Q := Q) (N.length - 1) Rc af.no fun s v ρ' H' post _ k3 h => by
        have e : Kp (fun _ => False) H1 H' := k3.mono fun a z => af.own z
        have k' : Kp (Own ρ σ) H H' := (kp.trans e fun _ z => z).mono fun _ z => z.elim
        match s, post, h with
        | .fro d, post, h => exact hq _ _ ρ1 H' (postF (R2.same e fun a z => .inl z) (post.2.av fun a z => .inr z)) s1 k' h
        | .own b o, ⟨a, hv, n, nb, R', q⟩, h =>
          subst hv
          refine hq _ _ ρ1 H' (postO (b := false) (kp.back n) (fun z => R2.btr a z n) (R2.same e fun x z => z.elim .inl fun z => .inr ⟨by rw [z]; exact n, by rw [z]; exact q.trk⟩) (q.av fun x z => ?_)) s1 k' h
          rcases z with z | z | z
          · exact .inr (.inl (.inl z))
          · exact .inr (.inl (.inr z))
          · exact .inr (.inr z)
    rw [hst]
    exact ⟨Av B ρ1 σ, H1, _, _, _, R0, F0, hw, en⟩
  refine wpAny_call (codeAny_mono rc fun r s2 hq => ?_)
  cases r with
  | error e => exact (show False from hq).elim
  | ok fl =>
    cases fl with
    | ret u => exact I1.after hq
    | next => exact False.elim hq
    | brk => exact False.elim hq
    | cont => exact False.elim hq
end Dl
namespace Dl
open PySem PySem.Spec PyProof.Rows L2
theorem def_okL [TabN] {P : Program} {w : World} {K : PySem.W.Frag} {mg : Str → Option Value} {base : Heap} {x qual : Str} {st : Stmt} {f : Addr} {fd : FuncData} {N ps : List Str} {k : Nat} {C : WE} {wb : WS} (F : Fun K x qual st f fd) (S : FnScope N ps (defScope st))
    (hb : ∀ (cdv : Value) (A : Around) (outer : List Env) (s : Shared) (H : Hp) (E : XK), fd.code = cdv → Room k (A.deeper (envOfC qual (defScope st) s.heap.objs.size f cdv)) → (A.deeper (envOfC qual (defScope st) s.heap.objs.size f cdv)).guards = some [] →
      MSs (bodyCx CX0 P w K mg base N qual st f cdv A outer s H E).nox (defBody st) wb)
    (hC : ∀ args Q, args.length = ps.length → C args Q → noOwn args ∧ wb (endsOf args Q) (args ++ List.replicate (N.length - ps.length) .nil)) :
    FnG P w K mg base CX0 (k + 1) f fd ps (spOf K ps.length C) := by
  obtain ⟨oc, od, kV, doc, pm, an, cdv, ct, osl, rfl, lk, hcd⟩ := F.ex
  refine fnG_of lk hcd S (fun vs H Q E h => h.1) fun A outer s H vs Q E hr hgu hsp => ?_
  have hB := hb cdv A outer s H E rfl hr hgu
  refine ⟨_, PSs.nox hB, ?_⟩
  obtain ⟨hl, B, args, Q', R, hc, hq⟩ := hsp
  have hla : args.length = ps.length := by rw [R.len, List.length_map]; exact hl
  obtain ⟨no, hw⟩ := hC args Q' hla hc
  have hst : L2.start N vs = vs.map some ++ List.replicate (N.length - ps.length) none := by unfold L2.start; rw [hl]
  obtain ⟨R0, ow⟩ := R.start (n := N.length - ps.length)
  obtain ⟨F0, en⟩ := body_start (N.length - ps.length) R no hq
  rw [hst]
  exact ⟨B, H, _, _, endsOf args Q', R0, F0, hw, en⟩
theorem law_callT [TabN] {P : Program} {w : World} {K : PySem.W.Frag} {mg mb : Str → Option Value} {k : Nat} {fa a : Addr} {cs : List (Addr × Addr)} {fd : FuncData} {x : Str} {sp : Sp} {s₁ : Shared} {vs : List Value} {ns : List Int}
    (KX : K.In s₁.heap) (hns : s₁.heap.Ns mainGlobals mg) (hb : s₁.heap.Ns builtinsNs mb) (hbb : ∀ x : Str, x ≠ "__name__" → mb x = bootBuiltins x) (hlim : s₁.heap.NoLimit) (hg : s₁.gens = #[])
    (hT : ∀ p ∈ cs, s₁.heap.get? p.2 = some { cls := .none, data := .fields #[] }) (nT : ∀ p ∈ cs, K.lookup p.2 = none) (C : ∀ p ∈ cs, PySem.W.CodeHd s₁.heap p.1 p.2)
    (hbm : ∃ (bm : Addr) (ob : Obj), mg "__builtins__" = some (.ref bm) ∧ bm ≠ builtinsNs ∧ s₁.heap.get? bm = some ob ∧ ob.cls = .type "module" ∧ ob.dict = some builtinsNs ∧ ob.data = .plain)
    (ha : s₁.heap.get? a = some { cls := .type "list", data := .seq vs.toArray }) (hi : IntsAre vs ns) (hl : ns.length ≤ sizeLine) (hr : Room k callerA)
    (F : ∀ base : Heap, K.In base → base.Ns mainGlobals mg → (∀ p ∈ cs, LamX.TabB base mg p.1 p.2) → FnG P w K mg base CX0 k fa fd [x] sp) (hbind : ∀ (s : Shared) (u : Value), BindsTo s fd ⟨[u], []⟩ [(x, u)])
    (hsp : ∀ H : Hp, (∀ p ∈ cs, H p.2 = some (.tbl #[])) → ArgAt K H a ns → sp [.ref a] H (fun v _ => v = .bl true) fun _ _ _ => False) :
    codeAny (model P w) callerA (.call (.ref fa) ⟨[.ref a], []⟩) (fun r s' => r = .ok (.ret (.bool true)) ∧ OldK s₁.heap s'.heap ∧ s'.os = s₁.os ∧ AllBare s'.gens) s₁ := by
  have rv := vals_ints hi
  have lenV := hi.length
  have isT : ∀ b : Addr, b ∈ cs.map (·.2) → s₁.heap.get? b = some { cls := .none, data := .fields #[] } := fun b hb => by
    obtain ⟨p, hp, e⟩ := List.mem_map.mp hb
    rw [← e]
    exact hT p hp
  have aT : a ∉ cs.map (·.2) := fun z => by
    have q := isT a z
    rw [ha] at q
    have z' : Data.seq vs.toArray _ = Data.fields #[] := congrArg Obj.data (Option.some.inj q)
    cases z'
  have memT : ∀ p ∈ cs, p.2 ∈ cs.map (·.2) := fun p hp => List.mem_map.mpr ⟨p, hp, rfl⟩
  -- from an abstract heap in which nothing but the script and the tables may be tracked
  have core : ∀ H : Hp, (∀ p ∈ cs, H p.2 = some (.tbl #[])) → (∀ b, H b = none ∨ b ∈ cs.map (·.2) ∨ ∃ o xs, H b = some (.frz o (.lst xs))) → ArgAt K H a ns → HOk P w H s₁.heap → (∀ b, H b ≠ none → b = a ∨ b ∈ cs.map (·.2)) → (H a ≠ none → K.lookup a = none) →
      codeAny (model P w) callerA (.call (.ref fa) ⟨[.ref a], []⟩) (fun r s' => r = .ok (.ret (.bool true)) ∧ OldK s₁.heap s'.heap ∧ s'.os = s₁.os ∧ AllBare s'.gens) s₁ := by
    intro H hH hO hS hok hA hK
    have base_of : ∀ {b : Addr} {o : Obj}, s₁.heap.get? b = some o → H b = none → (hidT s₁.heap H).get? b = some o := fun e n => hidT_get e n
    have noD : ∀ {b : Addr} {o : Obj}, s₁.heap.get? b = some o → (∀ vs n, o.data ≠ .seq vs n) → o.data ≠ .fields #[] → H b = none := fun {b o} e h1 h2 => by
      cases q : H b with
      | none => rfl
      | some u =>
        rcases hA b (by rw [q]; simp) with e' | e'
        · rw [e', ha] at e
          cases e
          exact (h1 _ _ rfl).elim
        · rw [isT b e'] at e
          cases e
          exact (h2 rfl).elim
    have noA : ∀ {b : Addr} {o : Obj} {es : Array DictEntry} {ep : Nat}, s₁.heap.get? b = some o → o.data = .dict es ep → H b = none := fun {b o es ep} e d => by
      refine noD e (fun vs n z => ?_) fun z => ?_
      · rw [d] at z
        cases z
      · rw [d] at z
        cases z
    have nsK : ∀ {b : Addr} {m : Str → Option Value}, s₁.heap.Ns b m → (hidT s₁.heap H).Ns b m := fun {b m} ⟨o, es, ep, e, d, r⟩ => ⟨o, es, ep, base_of e (noA e d), d, r⟩
    have hKb : K.In (hidT s₁.heap H) := fun b o e => base_of (KX b o e) (by
      cases q : H b with
      | none => rfl
      | some u =>
        rcases hA b (by rw [q]; simp) with e' | e'
        · rw [e'] at e q
          rw [hK (by rw [q]; simp)] at e
          cases e
        · obtain ⟨p, hp, ep⟩ := List.mem_map.mp e'
          rw [← ep, nT p hp] at e
          cases e)
    have hM : L2.Mod K mg (hidT s₁.heap H) := ⟨hKb, nsK hns, ⟨mb, nsK hb, hbb⟩, let ⟨mc, h1, h2⟩ := hlim; ⟨mc, nsK h1, h2⟩⟩
    have TB : ∀ p ∈ cs, LamX.TabB (hidT s₁.heap H) mg p.1 p.2 := fun p hp => by
      have hTp := hT p hp
      refine ⟨?_, ?_, fun z => ?_⟩
      · obtain ⟨o, us, file, tf, flags, tg, inF, text, tt, e1, r1, r2, r3, r4, r5, r6, r7, r8, hne⟩ := C p hp
        refine ⟨o, us, file, tf, flags, tg, inF, text, tt, base_of e1 (noD e1 (fun vs n z => ?_) fun z => ?_), r1, r2, r3, r4, r5, r6, r7, r8, hne⟩
        · rw [r2] at z
          cases z
        · rw [r2] at z
          cases z
          simp at r3
      · obtain ⟨bm, ob, b1, b2, b3, b4, b5, b6⟩ := hbm
        have nG : bm ≠ mainGlobals := fun q => by
          obtain ⟨o, es, ep, e, hd, _⟩ := hns
          rw [q, e] at b3
          cases b3
          rw [hd] at b6
          cases b6
        have nP : bm ≠ p.2 := fun q => by
          rw [q, hTp] at b3
          cases b3
          cases b6
        refine ⟨bm, ob, b1, b2, nG, nP, base_of b3 (noD b3 (fun vs n z => ?_) fun z => ?_), b4, b5, b6⟩
        · rw [b6] at z
          cases z
        · rw [b6] at z
          cases z
      · obtain ⟨o, es, ep, e, hd, _⟩ := hns
        rw [z, hTp] at e
        cases e
        cases hd
    have e0 : Env0 P w K mg (hidT s₁.heap H) callerA [] s₁ H := ⟨rfl, hM, fun b o e => of_hidT e, Nat.le_of_eq (hidT_size _ _), trivial, fun b hb => absurd (show b ∈ ([] : List Addr) from hb) (by simp), hok, .of_eq hg⟩
    refine codeAny_mono ((F _ hKb (nsK hns) TB).run callerA [] s₁ H ⟨[.ref a], []⟩ [.ref a] [.ref a] _ _ hr rfl e0 (hbind s₁ (.ref a)) (.cons rfl .nil) (hsp H hH hS)) fun r s' h => ?_
    cases r with
    | error e => exact (show False from h).elim
    | ok fl =>
      cases fl with
      | next => exact False.elim h
      | brk => exact False.elim h
      | cont => exact False.elim h
      | ret u =>
        obtain ⟨v, H', os, bare, un, hok', r', q⟩ := h
        have q' : v = .bl true := q
        subst q'
        obtain rfl : u = Value.bool true := r'
        have key : ∀ b o, b ∉ cs.map (·.2) → s₁.heap.get? b = some o → s'.heap.get? b = some o := fun b o nb e => by
          cases q : H b with
          | none => exact un.keep b o e q (by intro z; exact absurd (show b ∈ ([] : List Addr) from z) (by simp)) (by simp)
          | some u =>
            rcases hO b with z | z | ⟨ob, xs, z⟩
            · rw [q] at z; cases z
            · exact absurd z nb
            · have z2 := un.frzs b ob _ z
              obtain ⟨e1, _⟩ := hok b _ z
              obtain ⟨e2, _⟩ := hok' b _ z2
              rw [e] at e1; cases e1
              exact e2
        have grown : ∀ p ∈ cs, ∃ more : Array Value, s'.heap.get? p.2 = some { cls := .none, data := .fields more } := fun p hp => by
          obtain ⟨more, z⟩ := un.tbls p.2 #[] (hH p hp)
          exact ⟨_, hok' p.2 _ z⟩
        refine ⟨rfl, ⟨fun b o e => ?_, fun b o e => ?_⟩, os, bare⟩
        · by_cases hb : b ∈ cs.map (·.2)
          · obtain ⟨p, hp, ep⟩ := List.mem_map.mp hb
            obtain ⟨more, hm⟩ := grown p hp
            rw [← ep] at e ⊢
            rw [hT p hp] at e
            cases e
            exact .inr (.inl ⟨((C p hp).tab (hT p hp)).isCodeTable, rfl, #[], more, rfl, by rw [Array.empty_append]; exact hm⟩)
          · exact .inl (key b o hb e)
        · by_cases hb : b ∈ cs.map (·.2)
          · obtain ⟨p, hp, ep⟩ := List.mem_map.mp hb
            obtain ⟨more, hm⟩ := grown p hp
            rw [← ep]
            exact ⟨_, hm⟩
          · exact ⟨o, key b o hb e⟩
  cases hk : K.lookup a with
  | some o =>
    have e := KX a o hk
    rw [ha] at e
    cases e
    refine core (fun b => if b ∈ cs.map (·.2) then some (.tbl #[]) else none) (fun p hp => if_pos (memT p hp)) (fun b => ?_) (.inr ⟨_, vs.toArray, _, hk, rfl, rfl, rfl, by rw [List.size_toArray, lenV]; exact hl, by simpa using rv⟩) (fun b u z => ?_) (fun b z => ?_) fun z => absurd (show (if a ∈ cs.map (·.2) then some (HO.tbl #[]) else none) = none from if_neg aT) z
    · by_cases hb : b ∈ cs.map (·.2)
      · exact .inr (.inl hb)
      · exact .inl (if_neg hb)
    · by_cases hb : b ∈ cs.map (·.2)
      · have z' := (if_pos hb).symm.trans z
        cases z'
        exact isT b hb
      · have z' := (if_neg hb).symm.trans z
        cases z'
    · by_cases hb : b ∈ cs.map (·.2)
      · exact .inr hb
      · exact absurd (if_neg hb) z
  | none =>
    refine core (fun b => if b = a then some (.frz { cls := .type "list", data := .seq vs.toArray } (.lst (ns.map V.int))) else if b ∈ cs.map (·.2) then some (.tbl #[]) else none) (fun p hp => (if_neg (show ¬ p.2 = a from fun z => aT (by rw [← z]; exact memT p hp))).trans (if_pos (memT p hp))) (fun b => ?_)
      (.inl ⟨{ cls := .type "list", data := .seq vs.toArray }, if_pos rfl⟩) (fun b u z => ?_) (fun b z => ?_) fun _ => hk
    · by_cases hb : b = a
      · exact .inr (.inr ⟨_, _, if_pos hb⟩)
      · by_cases hb2 : b ∈ cs.map (·.2)
        · exact .inr (.inl hb2)
        · exact .inl ((if_neg hb).trans (if_neg hb2))
    · by_cases hb : b = a
      · have z' := (if_pos hb).symm.trans z
        cases z'
        rw [hb]
        exact ⟨ha, by rw [List.length_map]; exact hl, vs, _, rv, ha⟩
      · have z1 := (if_neg hb).symm.trans z
        by_cases hb2 : b ∈ cs.map (·.2)
        · have z' := (if_pos hb2).symm.trans z1
          cases z'
          exact isT b hb2
        · have z' := (if_neg hb2).symm.trans z1
          cases z'
    · by_cases hb : b = a
      · exact .inl hb
      · by_cases hb2 : b ∈ cs.map (·.2)
        · exact .inr hb2
        · exact absurd ((if_neg hb).trans (if_neg hb2)) z
namespace Hd
open He
def codO (K : Fg) (c P : Addr) : Bool := match K.lookup c with
  | some ⟨.type t, _, .fields vs, _⟩ => decide (t = "code") && ((match (vs[11]? : Option Value) with
    | some (.ref p) => decide (p = P)
    | _ => false) && ((match vs.getD 18 .none with
    | .str _ _ => true
    | _ => false) && ((match vs.getD 7 .none with
    | .int _ _ => true
    | _ => false) && ((match vs.getD 9 .none with
    | .bool _ => true
    | _ => false) && ((match vs.getD 10 .none with
    | .int _ _ => true
    | _ => false) && decide (c ≠ P))))))
  | _ => false
def cdA (K : Fg) (f : Addr) : Addr := match K.lookup f with
  | some ⟨_, _, .func fd, _⟩ => (match fd.code with
    | .ref c => c
    | _ => 0)
  | _ => 0
def cdB (K : Fg) (f : Addr) : Bool := match K.lookup f with
  | some ⟨_, _, .func fd, _⟩ => (match fd.code with
    | .ref _ => true
    | _ => false)
  | _ => false
def tabOf (K : Fg) (c : Addr) : Addr := match K.lookup c with
  | some ⟨_, _, .fields vs, _⟩ => (match (vs[11]? : Option Value) with
    | some (.ref p) => p
    | _ => 0)
  | _ => 0
def tabE (o : Option Obj) : Bool := match o with
  | some ⟨.none, none, .fields vs, sl⟩ => vs.isEmpty && sl.isEmpty
  | _ => false
theorem tabE_ok {o : Option Obj} (h : tabE o = true) : o = some { cls := .none, data := .fields #[] } := by
  unfold tabE at h
  split at h
  · rename_i vs sl
    obtain ⟨h1, h2⟩ := ba h
    rw [Array.isEmpty_iff.mp h1, Array.isEmpty_iff.mp h2]
  · cases h
theorem codO_ok {K : Fg} {h : Heap} {c P : Addr} (X : K.In h) (e : codO K c P = true) : PySem.W.CodeHd h c P := by
  unfold codO at e
  split at e
  · rename_i t d vs sl hl
    obtain ⟨h1, e⟩ := ba e
    obtain ⟨h2, e⟩ := ba e
    obtain ⟨h3, e⟩ := ba e
    obtain ⟨h4, e⟩ := ba e
    obtain ⟨h5, e⟩ := ba e
    obtain ⟨h6, h7⟩ := ba e
    have t' := of_decide_eq_true h1
    subst t'
    split at h2
    · rename_i p hp
      have hp' := of_decide_eq_true h2
      subst hp'
      split at h3
      · rename_i file tf h3e
        split at h4
        · rename_i fl tg h4e
          split at h5
          · rename_i b h5e
            split at h6
            · rename_i tx tt h6e
              exact ⟨_, vs, file, tf, fl, tg, b, tx, tt, X _ _ hl, rfl, rfl, hp, by rw [Array.getD_eq_getD_getElem?, hp]; rfl, h3e, h4e, h5e, h6e, of_decide_eq_true h7⟩
            · cases h6
          · cases h5
        · cases h4
      · cases h3
    · cases h2
  · cases e
theorem cdB_ok {K : Fg} {f : Addr} {oc : Value} {od : Option Addr} {fd : FuncData} {osl : Array (Option Value)} (h : cdB K f = true) (l : K.lookup f = some ⟨oc, od, .func fd, osl⟩) : fd.code = .ref (cdA K f) := by
  unfold cdB at h
  unfold cdA
  rw [l] at h ⊢
  simp only at h ⊢
  split at h
  · rename_i c hc
    rw [hc]
  · cases h
theorem frG_no {g : Addr → Option Obj} {a : Addr} : ∀ {as : List Addr}, a ∉ as → (frG g as).lookup a = none
  | [], _ => rfl
  | b :: r, h => by
    unfold frG
    rw [List.filterMap_cons]
    have ih := frG_no (g := g) (a := a) (as := r) fun z => h (List.mem_cons_of_mem _ z)
    cases hb : g b with
    | none => exact ih
    | some o =>
      show List.lookup a ((b, o) :: frG g r) = none
      rw [List.lookup_cons, show (a == b) = false by simpa using fun z : a = b => h (by rw [z]; exact List.mem_cons_self)]
      exact ih
end Hd
@[reducible] def tabAt (P : Addr) (q : Str) : TabN := ⟨fun b => if b = P then some q else none⟩
theorem tabAt_nm (P : Addr) (q : Str) : (tabAt P q).nm P = some q := if_pos rfl
theorem walk_gL {l : PySem.W.OpenLaw} {n k : Nat} {q : Program} {loose : List Str} {XP : (Str → Option Value) → Heap → Prop} {YP : World → Heap → Prop} {d : DefRec} {C : WE} {x : Str} (qn : Str)
    (hn : l.most = some n) (hn2 : n ≤ sizeLine) (hdf : d.params.defaults = []) (hr : Room k callerA)
    (F : ∀ (w : World) (mg : Str → Option Value) (fa : Addr) (h : Heap), YP w h → h.Ns mainGlobals mg → mg d.name = some (.ref fa) →
      ∃ (K : PySem.W.Frag) (fd : FuncData) (c P : Addr), K.In h ∧ h.get? P = some { cls := .none, data := .fields #[] } ∧ K.lookup P = none ∧ PySem.W.CodeHd h c P ∧ (∀ (s : Shared) (u : Value), BindsTo s fd ⟨[u], []⟩ [(x, u)]) ∧
        ∀ base : Heap, K.In base → base.Ns mainGlobals mg → LamX.TabB base mg c P → FnG l.prog w K mg base CX0 k fa fd [x] (@spOf (tabAt P qn) K 1 C))
    (hC : ∀ (ns : List Int), ns.length ≤ n → ∀ Q : Slot → List Slot → Prop, (∀ s, Q (.fro (.bl true)) s) → C [.fro (.arg ns)] Q) :
    PySem.W.WalkO q loose XP YP l.row.toRowW d [] (fun f vs => PySem.call f vs) := by
  refine Att.attach_call hn hdf fun w s₀ t0 mg mb fa o pm cd doc a us ns G Y ho hd hcd hmg hobj hints hlen hg => ?_
  obtain ⟨K, fd, c, P, KX, hP, nP, hc, hb, hF⟩ := F w mg fa _ Y G.T.g hmg
  letI : TabN := tabAt P qn
  have one : ∀ p : Addr × Addr, p ∈ [(c, P)] → p = (c, P) := fun p hp => by simpa using hp
  refine law_callT (cs := [(c, P)]) (sp := @spOf (tabAt P qn) K 1 C) KX G.T.g G.T.b G.T.builtins G.T.nolimit hg (fun p hp => by rw [one p hp]; exact hP) (fun p hp => by rw [one p hp]; exact nP) (fun p hp => by rw [one p hp]; exact hc) G.T.bmain hobj hints (Nat.le_trans hlen hn2) hr
    (fun base kB nB tb => hF base kB nB (tb (c, P) List.mem_cons_self)) hb fun H hH hA => ?_
  have noOwn : ∀ z, ¬ Own [.fro (.arg ns)] [some (V.ref a)] z := fun z ⟨i, b, o, e, _⟩ => by
    cases i with
    | zero => cases e
    | succ i => cases e
  have tb : TabsN H := fun P' q' hq => by
    have hq : (if P' = P then some qn else none) = some q' := hq
    by_cases z : P' = P
    · subst z
      exact LamX.TabS.nil (hH (c, P') List.mem_cons_self)
    · rw [if_neg z] at hq; cases hq
  have rep : Rep K (fun _ => False) [.fro (.arg ns)] [some (.ref a)] H := by
    refine ⟨rfl, fun i s e => ?_, fun i j b o b' o' y e _ _ _ => ?_, fun _ z => z.elim, fun y z => (noOwn y z).elim, tb⟩
    · cases i with
      | zero => cases e; exact ⟨_, rfl, .arg hA⟩
      | succ i => cases e
    · cases i with
      | zero => cases e
      | succ i => cases e
  exact ⟨rfl, fun _ => False, [.fro (.arg ns)], fun s _ => s = .fro (.bl true), rep, hC ns hlen _ fun _ => rfl, fun s v ρ' H' post _ _ e => by
    subst e
    cases post.2
    rfl⟩
end Dl
namespace Dl
namespace Hd
open PySem PySem.Spec PyProof.Rows L2 He
def ecB (K : Fg) (C : Addr) : Bool := match K.lookup C with
  | some ⟨.type "type", dd, .cls ⟨nm, bs, .ref C' :: bm, N, q, true, sn, sub, ab, col, false⟩, sl⟩ => Nat.beq C' C && (HandSPX.refsVE bm && (match sl.toList with
    | [k0, k1, k2, k3, some (.builtin n), k5] => decide (n = "ValueError.__new__")
    | _ => false))
  | _ => false
theorem ecB_ok {K : Fg} {C : Addr} (h : ecB K C = true) : ∃ nm q N bs bm sn sub ab col dd k0 k1 k2 k3 k5, K.lookup C = some (excClassObj nm q C N bs bm true sn sub ab col dd k0 k1 k2 k3 k5 "ValueError.__new__") ∧ HandSPX.refsVE bm = true := by
  unfold ecB at h
  split at h
  · rename_i dd nm bs C' bm N q sn sub ab col sl hl
    obtain ⟨h1, g⟩ := ba h
    obtain ⟨h2, g2⟩ := ba g
    clear h g
    have h1' : C' = C := Nat.eq_of_beq_eq_true h1
    subst h1'
    split at g2
    · rename_i k0 k1 k2 k3 n k5 hs
      have hn := of_decide_eq_true g2
      subst hn
      have hsl : sl = #[k0, k1, k2, k3, some (.builtin "ValueError.__new__"), k5] := by
        obtain ⟨l⟩ := sl
        simp only at hs
        rw [hs]
      subst hsl
      exact ⟨nm, q, N, bs, bm, sn, sub, ab, col, dd, k0, k1, k2, k3, k5, hl, h2⟩
    · cases g2
  · cases h
def fnOX (K : Fg) (f : Addr) : FnV := match K.lookup f with
  | some ⟨_, _, .func fd, _⟩ => some (fd.name, fd.qualname, fd.params, fd.body, fd.scope, fd.globals, [], fd.defaults, fd.builtins)
  | _ => none
def iniT (qual : Str) (args : Arguments) (body : List Stmt) (scope : Scope) : FnV := some ("__init__", qual, args, .stmts body, scope, mainGlobals, [], .none, builtinsNs)
def isNone : Value → Bool
  | .none => true
  | _ => false
def okX (file : Str) (K : Fg) (C f : Addr) (qual : Str) : Bool := match K.lookup f with
  | some ⟨_, _, .func fd, _⟩ => (match fd.closure, fd.code with
    | [(n, cc)], .ref cda => decide (n = "__class__") && (isNone fd.kwdefaults && (PySem.W.codeIn K (.ref cda) qual && ((match K.lookup cda with
      | some ⟨_, _, .fields vs, _⟩ => (match (vs[2]? : Option Value) with
        | some (.str y _) => file == y
        | _ => false)
      | _ => false) && (match K.lookup cc with
      | some ⟨_, _, .cell (some (.ref D)), _⟩ => Nat.beq D C
      | _ => false))))
    | _, _ => false)
  | _ => false
theorem okX_ok {P : Program} {K : Fg} {C f : Addr} {qual : Str} {args : Arguments} {body : List Stmt} {scope : Scope} (h : okX P.main.file K C f qual = true) (e : fnOX K f = iniT qual args body scope) :
    ∃ (oc : Value) (od : Option Addr) (doc pm : Value) (an : Option Addr) (cda cc : Addr) (ct : Value) (osl : Array (Option Value)),
      K.lookup f = some ⟨oc, od, .func (PySem.W.fnX "__init__" qual args body scope [("__class__", cc)] .none .none doc pm an (.ref cda) ct), osl⟩ ∧ PySem.W.codeIn K (.ref cda) qual = true ∧
      (∃ (ccl : Value) (cdd : Option Addr) (ccs : Array (Option Value)) (vs : Array Value) (file : Str) (tf : Tok), K.lookup cda = some ⟨ccl, cdd, .fields vs, ccs⟩ ∧ vs[2]? = some (.str file tf) ∧ ((P.main.file : Str) == file) = true) ∧
      (∃ (cl : Value) (cld : Option Addr) (csl : Array (Option Value)), K.lookup cc = some ⟨cl, cld, .cell (some (.ref C)), csl⟩) := by
  unfold okX at h
  split at h
  · rename_i oc od fd osl hl
    unfold fnOX at e
    rw [hl] at e
    obtain ⟨n1, n2, n3, n4, n5, n6, n7, n8, n9, n10, n11, n12, n13, n14, n15⟩ := fd
    have e2 : (some (n1, n2, n3, n4, n5, n6, [], n8, n15) : FnV) = some (("__init__" : Str), qual, args, .stmts body, scope, mainGlobals, [], .none, builtinsNs) := e
    simp only [Option.some.injEq, Prod.mk.injEq] at e2
    obtain ⟨h1, h2, h3, h4, h5, h6, _, h8, h9⟩ := e2
    subst h1 h2 h3 h4 h5 h6 h8 h9
    simp only at h
    split at h
    · rename_i n cc cda
      obtain ⟨a1, g1⟩ := ba h
      obtain ⟨a2, g2⟩ := ba g1
      obtain ⟨a3, g3⟩ := ba g2
      obtain ⟨a4, a5⟩ := ba g3
      clear h g1 g2 g3
      have a1' := of_decide_eq_true a1
      subst a1'
      cases n9 with
      | none =>
        refine ⟨oc, od, n10, n11, n12, cda, cc, n14, osl, hl, a3, ?_, ?_⟩
        · split at a4
          · rename_i ccl cdd vs ccs hv
            split at a4
            · rename_i y tf hy
              exact ⟨ccl, cdd, ccs, vs, y, tf, hv, hy, a4⟩
            · cases a4
          · cases a4
        · split at a5
          · rename_i cl cld D csl hD
            have hD' : D = C := Nat.eq_of_beq_eq_true a5
            subst hD'
            exact ⟨cl, cld, csl, hD⟩
          · cases a5
      | _ => cases a2
    · cases h
  · cases h
def tyB (o : Option Value) (t : String) : Bool := match o with
  | some (.type u) => decide (u = t)
  | _ => false
theorem tyB_ok {o : Option Value} {t : String} (h : tyB o t = true) : o = some (.type t) := by
  unfold tyB at h
  split at h
  · rename_i u
    rw [of_decide_eq_true h]
  · cases h
def btB (o : Option Bool) (b : Bool) : Bool := match o with
  | some c => c == b
  | none => false
theorem btB_ok {o : Option Bool} {b : Bool} (h : btB o b = true) : o = some b := by
  cases o with
  | none => cases h
  | some c => rw [beq_iff_eq.mp (show (c == b) = true from h)]
def supB (file : Str) (c f qual : Str) (K : Fg) : Bool :=
  let C := ga K c
  let fI := ma K C "__init__"
  glo c K && (mth c "__init__" K && (ecB K C && (PySem.W.excInitIn K C SupX.veAll "ValueError.__new__" && (eqO (PySem.W.findIn K (.ref C) "__setattr__") (some (some (.builtin "object.__setattr__"))) &&
  (eqO (PySem.W.findIn K (.ref C) "__getattribute__") (some (some (.builtin "BaseException.__getattribute__"))) && (eqO (PySem.W.findIn K (.ref C) "__getattr__") (some none) && (eqO (PySem.W.findIn K (.ref C) f) (some none) &&
  (tyB (PySem.W.typeIn K (.ref fI)) "function" && (PySem.W.keepIn K (.ref C) && (btB (PySem.W.subIn K (.ref C) (.type "BaseException")) true && (tyB (PySem.W.typeIn K (.ref C)) "type" && (PySem.W.hasDictIn K C &&
  (eqO (PySem.W.ks_superIn K C C "__init__") (some (some (.builtin "ValueError.__init__"))) && (btB (PySem.W.subIn K (.ref C) (.type "ValueError")) true && (btB (PySem.W.mroIn K C (.ref C)) true && (eqO (PySem.W.nsIn K cStatics "thirdparty.any") (some none) &&
  (eqO (PySem.W.nsIn K mainGlobals "super") (some none) && (okX file K C fI qual &&
  (eqO (PySem.W.findIn K (.ref C) "__class__") (some (some (.builtin "object.__class__"))) && (eqO (PySem.W.specialIn K (.builtin "object.__class__") "__get__") (some (some (.builtin "getset_descriptor.__get__"))) && (btB (PySem.W.takesIn K (.builtin "object.__class__")) true && btB (PySem.W.mroIn K C (.type "object")) true)))))))))))))))))))))
theorem sup_mk {P : Program} {c f qual : Str} {K : Fg} {args : Arguments} {body : List Stmt} {scope : Scope} {mg : Str → Option Value} {h : Heap} (X : K.In h) (G : h.Ns mainGlobals mg) (top : (P.main.scope.names.lookup ("super" : Str)).isSome = false)
    (B : SupX.SupBody f args body scope) (e : fnOX K (ma K (ga K c) "__init__") = iniT qual args body scope) (q : supB P.main.file c f qual K = true) :
    Raiser P K mg c f ∧ ∀ C, ClsAt K c C → ExcC K C ∧ XfC K C ∧ PySem.W.findIn K (.ref C) f = some none := by
  unfold supB at q
  obtain ⟨q0, q⟩ := ba q
  obtain ⟨qm, q⟩ := ba q
  obtain ⟨q1, q⟩ := ba q
  obtain ⟨q2, q⟩ := ba q
  obtain ⟨q3, q⟩ := ba q
  obtain ⟨q4, q⟩ := ba q
  obtain ⟨q5, q⟩ := ba q
  obtain ⟨q6, q⟩ := ba q
  obtain ⟨q7, q⟩ := ba q
  obtain ⟨q8, q⟩ := ba q
  obtain ⟨q9, q⟩ := ba q
  obtain ⟨q10, q⟩ := ba q
  obtain ⟨q11, q⟩ := ba q
  obtain ⟨q12, q⟩ := ba q
  obtain ⟨q13, q⟩ := ba q
  obtain ⟨q14, q⟩ := ba q
  obtain ⟨q15, q⟩ := ba q
  obtain ⟨q16, q⟩ := ba q
  obtain ⟨q17, q⟩ := ba q
  obtain ⟨q18, q⟩ := ba q
  obtain ⟨q19, q⟩ := ba q
  obtain ⟨q20, q21⟩ := ba q
  obtain ⟨m1, m2⟩ := ba (show (eqO (PySem.W.findIn K (.ref (ga K c)) "__init__") (some (some (.ref (ma K (ga K c) "__init__")))) && PySem.W.isFn K (.ref (ma K (ga K c) "__init__"))) = true from qm)
  have hc : ClsAt K c (ga K c) := eqO_ok q0
  refine ⟨⟨ga K c, ma K (ga K c) "__init__", qual, args, body, scope, ⟨ecB_ok q1, q2, eqO_ok q3, eqO_ok q4, eqO_ok q5, eqO_ok q6, eqO_ok m1, tyB_ok q7, q8, btB_ok q9, tyB_ok q10, q11, eqO_ok q12, btB_ok q13, btB_ok q14, eqO_ok q15, eqO_ok q16, okX_ok q17 e, top⟩, B, PySem.W.mg_of X G (eqO_ok q0), q8, hc⟩, fun C hC => ?_⟩
  cases clsAt_inj hC hc
  exact ⟨⟨eqO_ok q4, eqO_ok q5, btB_ok q9, q11, eqO_ok q18, eqO_ok q19, btB_ok q20, btB_ok q21⟩, ⟨eqO_ok q4, eqO_ok q5, btB_ok q9, q11⟩, eqO_ok q6⟩
def catB (x : Str) (cs : List (Str × Str)) (K : Fg) : Bool := glo x K && cs.all fun p => glo p.1 K && (btB (PySem.W.exmOne K (.ref (ga K p.1)) (.ref (ga K x))) (isSubC p.1 x) && btB (PySem.W.kitOne K (.ref (ga K p.1)) (.ref (ga K x))) (isSubC p.1 x))
theorem cat_mk {x : Str} {cs : List (Str × Str)} {K : Fg} {mg : Str → Option Value} {h : Heap} (X : K.In h) (G : h.Ns mainGlobals mg) (q : catB x cs K = true) : Catcher K mg x cs := by
  obtain ⟨q0, q⟩ := ba q
  refine ⟨.ref (ga K x), .ref (ga K x), rfl, fun u' r => r, .inl (PySem.W.mg_of X G (eqO_ok q0)), fun p hp C hC => ?_⟩
  obtain ⟨q1, q2⟩ := ba (List.all_eq_true.mp q p hp)
  obtain ⟨q2, q3⟩ := ba q2
  cases clsAt_inj hC (eqO_ok q1)
  exact ⟨btB_ok q2, btB_ok q3⟩
def catT (x : Str) (T : String) (cs : List (Str × Str)) (K : Fg) : Bool := fre x K && cs.all fun p => glo p.1 K && (btB (PySem.W.exmOne K (.ref (ga K p.1)) (.type T)) (isSubC p.1 x) && btB (PySem.W.kitOne K (.ref (ga K p.1)) (.type T)) (isSubC p.1 x))
theorem catT_mk {x : Str} {T : String} {cs : List (Str × Str)} {K : Fg} {mg : Str → Option Value} {h : Heap} (X : K.In h) (G : h.Ns mainGlobals mg) (hb : bootBuiltins x = some (.type T)) (hx : x ≠ "__name__") (q : catT x T cs K = true) : Catcher K mg x cs := by
  obtain ⟨q0, q⟩ := ba q
  refine ⟨.ty T, .type T, rfl, fun u' r => r, .inr ⟨PySem.W.mg_none_of X G (eqO_ok q0), hb, hx⟩, fun p hp C hC => ?_⟩
  obtain ⟨q1, q2⟩ := ba (List.all_eq_true.mp q p hp)
  obtain ⟨q2, q3⟩ := ba q2
  cases clsAt_inj hC (eqO_ok q1)
  exact ⟨btB_ok q2, btB_ok q3⟩
def seenX (fs : List (Fg → Bool)) (fn xs : List FnE) (K : Fg) : Bool × List FnV := ((fs.all fun f => f K) && fn.all fun d => d.ok K, fn.map (fun d => fnO K (d.adr K)) ++ xs.map fun d => fnOX K (d.adr K))
def dueX (fn xs : List FnE) : Bool × List FnV := (true, fn.map FnE.val ++ xs.map FnE.val)
theorem seenX_ok {fs : List (Fg → Bool)} {fn xs : List FnE} {K : Fg} (c : seenX fs fn xs K = dueX fn xs) : seen fs fn K = due fn ∧ ∀ d ∈ xs, fnOX K (d.adr K) = d.val := by
  have c1 := congrArg (fun z : Bool × List FnV => z.1) c
  have c2 : fn.map (fun d => fnO K (d.adr K)) ++ xs.map (fun d => fnOX K (d.adr K)) = fn.map FnE.val ++ xs.map FnE.val := congrArg (fun z : Bool × List FnV => z.2) c
  obtain ⟨e1, e2⟩ := List.append_inj c2 (by rw [List.length_map, List.length_map])
  refine ⟨Prod.ext c1 e1, fun d hd => ?_⟩
  exact List.map_inj_left.mp e2 d hd
def seenLX (as : List Addr) (fs : List (Fg → Bool)) (fn xs : List FnE) (m : Fg → Addr) (g : Addr → Option Obj) : (Bool × List FnV) × Bool :=
  let Kf := frG g as
  let P := tabOf Kf (cdA Kf (m Kf))
  let K := frG g (as.filter fun a => !(a == P))
  (seenX fs fn xs K, cdB K (m K) && (codO K (cdA K (m K)) P && tabE (g P)))
def hookX (as : List Addr) (fs : List (Fg → Bool)) (fn xs : List FnE) (m : Fg → Addr) : PySem.W.Hook where
  α := (Bool × List FnV) × Bool
  obs := fun s => seenLX as fs fn xs m s.heap.get?
  val := fun _ => (dueX fn xs, true)
  says := fun _ h => ∃ (K : Fg) (P : Addr), K.In h ∧ seenX fs fn xs K = dueX fn xs ∧ cdB K (m K) = true ∧ codO K (cdA K (m K)) P = true ∧ K.lookup P = none ∧ h.get? P = some { cls := .none, data := .fields #[] }
  of := fun _ s e => by
    have e1 := congrArg (fun z : (Bool × List FnV) × Bool => z.1) e
    have e2 := congrArg (fun z : (Bool × List FnV) × Bool => z.2) e
    obtain ⟨h1, h2⟩ := ba e2
    obtain ⟨h2, h3⟩ := ba h2
    exact ⟨_, _, frG_in, e1, h1, h2, frG_no (by simp), tabE_ok h3⟩
  keeps := fun _ _ _ ⟨K, P, hK, c1, c2, c3, c4, c5⟩ k => ⟨K, P, PySem.W.Frag.In.keeps hK k, c1, c2, c3, c4, k _ _ c5⟩
def obX (as : List Addr) (fs : List (Fg → Bool)) (fn xs : List FnE) (m : Fg → Addr) (s : PySem.W.SharedT) : (Bool × List FnV) × Bool := seenLX as fs fn xs m (HandSHeadRun.getT s)
theorem obX_eq {as : List Addr} {fs : List (Fg → Bool)} {fn xs : List FnE} {m : Fg → Addr} (s : PySem.W.SharedT) : obX as fs fn xs m s = (hookX as fs fn xs m).obs s.abs := by
  have e : HandSHeadRun.getT s = s.abs.heap.get? := funext (HandSHeadRun.getT_eq s)
  show seenLX as fs fn xs m (HandSHeadRun.getT s) = seenLX as fs fn xs m s.abs.heap.get?
  rw [e]
end Hd
end Dl
namespace Dl
open PySem PySem.Spec PyProof.Rows L2
variable [TabN]
def wSetX (i : Nat) (w : WEX) : WSX := fun ex => wSet i (w ex)
theorem mx_set {X : Cx} {W : WX} {e : Expr} {w : WEX} {pos : Pos} {i : Nat} {x : Str} {pos' : Pos} (hN : X.N.Nodup) (hi : X.N[i]? = some x) (hx : Loc X.env.scope x) (he : MEX X W e w) (hs : swapsWith e (some (.Name x pos')) pos.line X.env = pure false := by rfl) (hf : X.fn x = true ∨ X.env.scope.names.lookup x = some .local := by first | exact .inl rfl | exact .inr rfl | assumption) :
    MX X W (.Assign [.Name x pos'] e pos) (wSetX i w) := PS_weak (ps_set hN hi hx he hs hf) fun D σ H ⟨B, H0, L, ρ, KD, ex, R, F, hw, en, xo⟩ => by
  have hw : (w ex) ρ fun s ρ1 => prep ρ1 s fun s' ρ2 => put i ρ2 s' KD.nx := hw
  refine ⟨B, ρ, _, ex, R, hw, fun s v ρ1 H1 post sub kp q => ?_, fun c f v cls d ρ' H' R' sub kp ea q => xo c f v cls d ρ' σ H' R' (F.step kp sub) ea q⟩
  obtain ⟨B1, b1, b1', R1, P1⟩ := post.pend
  obtain ⟨s', ρ2, q2, R2, sub2, P2, _, _⟩ := prep_ok (B0 := B) R1 P1 q
  obtain ⟨B3, ρ3, q3, R3, F3, c1, c2, _⟩ := put_ok R2 ((F.step kp sub).step Kp.refl sub2) P2 (fun a z => by
    cases e : H0 a with
    | none => rfl
    | some o => exact absurd z (F.trk a (by rw [e]; exact nofun))) q2
  refine en.nx ρ3 _ H1 (R3.fewer fun a z => ?_) F3 q3
  rcases c2 a (b1 a z) with z' | z'
  · exact z'
  · exact absurd z' (R.btr a z)
def wTupX (ws : List WEX) : WEX := fun ex => wTup (ws.map fun w => w ex)
def wCallA (C : WE) (ws : List WEX) : WEX := fun ex => wCall C (ws.map fun w => w ex)
end Dl
namespace Dl
open PySem PySem.Spec PyProof.Rows L2
variable [TabN]
structure CalleeXK (P : Program) (w : World) (K : PySem.W.Frag) (mg : Str → Option Value) (base : Heap) (k : Nat) (x : Str) (ps ks : List Str) (is : List Nat) (C : WDX) : Prop where
  ex : ∃ (f : Addr) (fd : FuncData), FnG P w K mg base (L2.CX P w) k f fd ps (spX K ps.length C) ∧ mg x = some (.ref f) ∧ PySem.W.keepIn K (.ref f) = true ∧ KwB K fd ps ks is
def wCallXK (C : WDX) (ws : List WE) (is : List Nat) : WEX := fun ex ρ Q => wArgs ws ρ fun ss ρ1 => frzL ρ1 ss fun ds ρ2 => ds.length = ws.length ∧ C (fun c f v => ex c f v ρ2) ((perm .non ds is).map .fro) fun r _ => match r with
  | .fro d => Q (.fro d) ρ2
  | .own _ o => Q (.own false o) ρ2
  | _ => False
theorem callXK_ok {K : PySem.W.Frag} {C : WDX} {B : Addr → Prop} {ρ : List Slot} {σ : L2.St} {H : Hp} {ws : List WE} {is : List Nat} {W : WX} {Q' : Slot → List Slot → Prop} {Q : VK} {ex : XS} (hi : ∀ i ∈ is, i < ws.length) (R : Rep K B ρ σ H) (hw : wCallXK C ws is ex ρ Q')
    (hq : ∀ s v ρ' H', Post K B ρ' σ H H' s v → Sub ρ' ρ → Kp (Own ρ σ) H H' → Q' s ρ' → Q v H')
    (hx : ∀ c f v cls d ρ' H', Rep K B ρ' σ H' → Sub ρ' ρ → Kp (Own ρ σ) H H' → ExcAt K (Av B ρ' σ) H' cls d c f v → ex c f v ρ' → W cls d σ H') :
    taOf K ws σ H fun vs H1 => vs.length = ws.length ∧ spX K is.length C (perm .non vs is) H1 Q (L2.WE W σ) := by
  refine args_frz R hw fun ds vs ρ2 H2 R2 r sub kp ⟨hl, hC⟩ => ⟨by rw [r.length]; exact hl, ?_⟩
  have r' := perm_rep r (is := is) (fun i z => by rw [hl]; exact hi i z)
  refine ⟨by unfold perm; rw [List.length_map], Av B ρ2 σ, (perm .non ds is).map .fro, _, _, repL_rep (fun a z => R2.av_trk z) R2.tabs r', allFro_map _, hC, fun s v ρ' H' post _ k3 h => ?_, fun c f v cls d H' k3 ea h => ?_⟩
  · have ex : Kp (fun _ => False) H2 H' := k3.mono fun a z => (allFro_map _).own z
    have k' : Kp (Own ρ σ) H H' := kp.trans (ex.mono fun _ z => z.elim) fun _ z => z
    match s, post, h with
    | .fro d, post, h => exact hq _ _ ρ2 H' (postF (R2.same ex fun a z => .inl z) (post.2.av fun a z => .inr z)) sub k' h
    | .own b o, ⟨a, hv, n, nb, R', q⟩, h =>
      subst hv
      refine hq _ _ ρ2 H' (postO (b := false) (kp.back n) (fun z => R2.btr a z n) (R2.same ex fun x z => z.elim .inl fun z => .inr ⟨by rw [z]; exact n, by rw [z]; exact q.trk⟩) (q.av fun x z => ?_)) sub k' h
      rcases z with z | z | z
      · exact .inr (.inl (.inl z))
      · exact .inr (.inl (.inr z))
      · exact .inr (.inr z)
  · exact hx c f v cls d ρ2 H' (R2.same k3 fun a z => .inl z) sub (kp.trans (k3.mono fun _ z => z.elim) fun _ z => z) ea h
theorem CalleeXK.callK {X : Cx} {W : WX} {k : Nat} {x : Str} {ps ks : List Str} {is : List Nat} {C : WDX} {p pos : Pos} {kws : List Keyword} {ws : List WE} (c : CalleeXK X.prog X.w X.K X.mg X.base k x ps ks is C) (tk : Takes X W) (hr : Room k X.A) (hgu : X.A.guards = some []) (hg : Gl X x) (hkw : MK X kws ws)
    (hn : ws.length = ks.length := by rfl) (hn2 : is.length = ps.length := by rfl) (hall : (backToKw pos (keywordEach kws X.env)).all (·.1.isSome) = true := by rfl) (hks : (backToKw pos (keywordEach kws X.env)).filterMap (·.1) = ks := by rfl)
    (hdb : (x == ("__debug__" : Str)) = false := by decide) (hpl : ((backTo pos (starEach [] X.env)).any (·.1) || (backToKw pos (keywordEach kws X.env)).any (·.1.isNone)) = false := by rfl) :
    MEX X W (.Call (.Name x p) [] kws pos) (wCallXK C ws is) := by
  obtain ⟨f, fd, F, hm, hk, hb⟩ := c.ex
  rw [← hn2] at F
  have hi : ∀ i ∈ is, i < ws.length := fun i z => by rw [hn]; exact hb.lt i z
  refine ⟨fun pins s σ H Q I ⟨B, ρ, Q', ex, R, hw, hq, hx⟩ => ?_⟩
  refine wpAny_Call_Name_kw (ld_glob I hg hm ?_ hdb)
  refine PySem.W.callWith_KW0 (h₀ := X.base) I.ok.mod.kin hk hall (thn (hkw.run pos pins s σ H _ I (callXK_ok (W := W) hi R hw hq hx)) fun us s1 ⟨vs, H1, I1, r, hl, h⟩ => ⟨I1.kIn, ?_⟩) hpl
  rw [hks]
  have hul : us.length = ks.length := by rw [← r.length, hl, hn]
  have r2 := perm_vals r (is := is) (fun i z => by rw [hul]; exact hb.lt i z)
  refine wpAny_call (codeAny_mono (F.run X.A X.stack s1 H1 ⟨[], ks.zip us⟩ (perm .none us is) (perm .non vs is) Q (L2.WE W σ) hr hgu I1.env0 (hb.to s1 us I1.kIn hul) r2 h) fun res s' hq => ?_)
  match res, hq with
  | .ok (.ret u), hq => exact I1.after hq
  | .ok .next, hq => exact hq.elim
  | .ok .brk, hq => exact hq.elim
  | .ok .cont, hq => exact hq.elim
  | .error e, hq => exact passAt tk σ pins H1 s1 e s' I1 hq
end Dl
namespace Dl
open PySem L2 PySem.Spec PyProof.Rows
variable [TabN]
end Dl
namespace Dl
open PySem L2 PySem.Spec PyProof.Rows
variable [TabN]
section
variable {X : Cx}
end
end Dl
namespace Dl
open PySem L2 PySem.Spec PyProof.Rows
variable [TabN]
section
variable {X : Cx}
theorem Post.tix {K : PySem.W.Frag} {B : Addr → Prop} {ρ : List Slot} {σ : L2.St} {H0 H : Hp} {p : Addr} {o : Obj} {ys : List Str} (R : Rep K B ρ σ H) (n : H p = none) (hd : o.dict = none) :
    Post K B ρ σ H0 (L2.upd H p (.frz o (.tup (ys.map V.str)))) (.fro (.tix ys)) (.ref p) :=
  ⟨R.ex (Ex.new n) fun a z => .inl z, .tix ⟨o, upd_same, hd⟩⟩
end
end Dl
namespace Dl
open PySem L2 PySem.Spec PyProof.Rows
variable [TabN]
section
variable {X : Cx}
def gNotInX : D → D → (Slot → Prop) → Prop
  | d, .lst ds, k => shD d ∧ shD (.lst ds) ∧ k (.fro (.bl (!((pyL ds).any fun z => PyData.eqv z (pyD d)))))
  | _, _, _ => False
end
end Dl
namespace Dl
open PySem L2 PyProof.Rows
variable [TabN]
section
variable {X : Cx} {e : Expr} {w1 : WE}
end
end Dl
namespace Dl
open PySem L2 PySem.Spec PyProof.Rows
variable [TabN]
end Dl
namespace Dl
open PySem PySem.Spec PyProof.Rows L2
variable [TabN]
section
variable {X : Cx} {o e : Expr} {w1 w2 : WE} {apos cpos : Pos}
end
end Dl
namespace Dl
open PySem PySem.Spec PyProof.Rows L2
variable [TabN]
def wIsExcN (cs : List (Str × Str)) (x : Str) (w : WE) : WE := fun ρ Q => w ρ fun s ρ1 => match lookD ρ1 s with
  | some (.exc c f _) => (c, f) ∈ cs ∧ Q (.fro (.bl (isSubC c x))) ρ1
  | some .non => Q (.fro (.bl false)) ρ1
  | _ => False
namespace Hd
open PySem PySem.Spec PyProof.Rows L2 He
end Hd
end Dl
namespace Dl
open PySem PySem.Spec PyProof.Rows L2
variable [TabN]
theorem spx_ok {K : PySem.W.Frag} {C : WDX} {B : Addr → Prop} {ρ ρ2 : List Slot} {σ : L2.St} {H H2 : Hp} {vs : List V} {ds : List D} {n : Nat} {W : WX} {Q' : Slot → List Slot → Prop} {Q : VK} {ex : XS} (hl : ds.length = n) (R2 : Rep K B ρ2 σ H2) (r : RepL K (Av B ρ2 σ) H2 vs ds) (sub : Sub ρ2 ρ) (kp : Kp (Own ρ σ) H H2)
    (hC : C (fun c f v => ex c f v ρ2) (ds.map .fro) fun r _ => match r with
      | .fro d => Q' (.fro d) ρ2
      | .own _ o => Q' (.own false o) ρ2
      | _ => False)
    (hq : ∀ s v ρ' H', Post K B ρ' σ H H' s v → Sub ρ' ρ → Kp (Own ρ σ) H H' → Q' s ρ' → Q v H')
    (hx : ∀ c f v cls d ρ' H', Rep K B ρ' σ H' → Sub ρ' ρ → Kp (Own ρ σ) H H' → ExcAt K (Av B ρ' σ) H' cls d c f v → ex c f v ρ' → W cls d σ H') :
    spX K n C vs H2 Q (L2.WE W σ) := by
  refine ⟨by rw [r.length]; exact hl, Av B ρ2 σ, ds.map .fro, _, _, repL_rep (fun a z => R2.av_trk z) R2.tabs r, allFro_map ds, hC, fun s v ρ' H' post _ k3 h => ?_, fun c f v cls d H' k3 ea h => ?_⟩
  · have ex : Kp (fun _ => False) H2 H' := k3.mono fun a z => (allFro_map ds).own z
    have k' : Kp (Own ρ σ) H H' := kp.trans (ex.mono fun _ z => z.elim) fun _ z => z
    match s, post, h with
    | .fro d, post, h => exact hq _ _ ρ2 H' (postF (R2.same ex fun a z => .inl z) (post.2.av fun a z => .inr z)) sub k' h
    | .own b o, ⟨a, hv, n, nb, R', q⟩, h =>
      subst hv
      refine hq _ _ ρ2 H' (postO (b := false) (kp.back n) (fun z => R2.btr a z n) (R2.same ex fun x z => z.elim .inl fun z => .inr ⟨by rw [z]; exact n, by rw [z]; exact q.trk⟩) (q.av fun x z => ?_)) sub k' h
      rcases z with z | z | z
      · exact .inr (.inl (.inl z))
      · exact .inr (.inl (.inr z))
      · exact .inr (.inr z)
  · exact hx c f v cls d ρ2 H' (R2.same k3 fun a z => .inl z) sub (kp.trans (k3.mono fun _ z => z.elim) fun _ z => z) ea h
def wCallXPK (C : WDX) (ws us : List WE) : WEX := fun ex ρ Q => wArgs ws ρ fun ss ρ1 => ss.length = ws.length ∧ wArgs us ρ1 fun zs ρ2 => zs.length = us.length ∧ frzL ρ2 (ss ++ zs) fun ds ρ3 => ds.length = ws.length + us.length ∧ C (fun c f v => ex c f v ρ3) (ds.map .fro) fun r _ => match r with
  | .fro d => Q (.fro d) ρ3
  | .own _ o => Q (.own false o) ρ3
  | _ => False
theorem callXPK_ok {K : PySem.W.Frag} {C : WDX} {B : Addr → Prop} {ρ : List Slot} {σ : L2.St} {H : Hp} {ws us : List WE} {W : WX} {Q' : Slot → List Slot → Prop} {Q : VK} {ex : XS} (R : Rep K B ρ σ H) (hw : wCallXPK C ws us ex ρ Q') (hq : ∀ s v ρ' H', Post K B ρ' σ H H' s v → Sub ρ' ρ → Kp (Own ρ σ) H H' → Q' s ρ' → Q v H')
    (hx : ∀ c f v cls d ρ' H', Rep K B ρ' σ H' → Sub ρ' ρ → Kp (Own ρ σ) H H' → ExcAt K (Av B ρ' σ) H' cls d c f v → ex c f v ρ' → W cls d σ H') :
    taOf K ws σ H fun vs H1 => vs.length = ws.length ∧ taOf K us σ H1 fun zs H2 => zs.length = us.length ∧ spX K (ws.length + us.length) C (vs ++ zs) H2 Q (L2.WE W σ) := by
  refine ⟨B, ρ, _, R, hw, fun ss vs ρ1 B1 H1 b1 b1' R1 P1 sub kp ⟨l1, hw1⟩ => ⟨by rw [← pendL_len P1]; exact l1, B1, ρ1, _, R1, hw1, fun zs xs ρ2 B2 H2 b2 b2' R2 P2 sub2 kp2 ⟨l2, q⟩ => ⟨by rw [← pendL_len P2]; exact l2, ?_⟩⟩⟩
  have PP := pendL_app (P1.step R1 kp2 sub2 b2 b2') (pendL_start kp P2)
  have bb : ∀ a, B a → B2 a := fun a z => b2 a (b1 a z)
  obtain ⟨ds, ρ3, ⟨hl, hC⟩, R3, s3, r3⟩ := frzL_ok (B0 := B) (H0 := H) bb R.btr R2 PP q
  exact spx_ok hl (R3.fewer bb) r3 ((sub.trans sub2).trans s3) (kp.trans kp2 fun a z => sub.own a z) hC hq hx
structure CalleeXN (P : Program) (w : World) (K : PySem.W.Frag) (mg : Str → Option Value) (base : Heap) (k : Nat) (x : Str) (ps : List Str) (n : Nat) (ks : List Str) (C : WDX) : Prop where
  ex : ∃ (f : Addr) (fd : FuncData), FnG P w K mg base (L2.CX P w) k f fd ps (spX K ps.length C) ∧ mg x = some (.ref f) ∧ PySem.W.keepIn K (.ref f) = true ∧ ∀ (s : Shared) (us ws : List Value), K.In s.heap → us.length = n → ws.length = ks.length → BindsTo s fd ⟨us, ks.zip ws⟩ (ps.zip (us ++ ws))
theorem CalleeXN.callN {X : Cx} {W : WX} {k n : Nat} {x : Str} {ps ks : List Str} {C : WDX} {p pos : Pos} {e : Expr} {es : List Expr} {kws : List Keyword} {ws us : List WE} (c : CalleeXN X.prog X.w X.K X.mg X.base k x ps n ks C) (tk : Takes X W) (hr : Room k X.A) (hgu : X.A.guards = some []) (hg : Gl X x) (ha : MA X (e :: es) ws) (hkw : MK X kws us)
    (hn : ws.length = n := by rfl) (hn1 : us.length = ks.length := by rfl) (hn2 : (ws ++ us).length = ps.length := by rfl) (hall : (backToKw pos (keywordEach kws X.env)).all (·.1.isSome) = true := by rfl) (hks : (backToKw pos (keywordEach kws X.env)).filterMap (·.1) = ks := by rfl)
    (hdb : (x == ("__debug__" : Str)) = false := by decide) (he : starEach (e :: es) X.env = (false, eval e X.env) :: starEach es X.env := by rfl) (hpl : ((backTo pos (starEach (e :: es) X.env)).any (·.1) || (backToKw pos (keywordEach kws X.env)).any (·.1.isNone)) = false := by rfl) :
    MEX X W (.Call (.Name x p) (e :: es) kws pos) (wCallXPK C ws us) := by
  obtain ⟨f, fd, F, hm, hk, hb⟩ := c.ex
  rw [← hn2, List.length_append] at F
  refine ⟨fun pins s σ H Q I ⟨B, ρ, Q', ex, R, hw, hq, hx⟩ => ?_⟩
  refine wpAny_Call_Name_kw (ld_glob I hg hm ?_ hdb)
  refine PySem.W.callWith_KW (h₀ := X.base) I.ok.mod.kin hk hall (thn (PA.run ha pos pins s σ H _ I (callXPK_ok (W := W) R hw hq hx)) fun vu s1 ⟨vs, H1, I1, r, l1, q⟩ => ?_) hpl he
  refine thn (PK.run hkw pos pins s1 σ H1 _ I1 q) fun zu s2 ⟨zs, H2, I2, rz, l2, q2⟩ => ⟨I2.kIn, ?_⟩
  rw [hks]
  have e1 : vu.length = n := by rw [← r.length, l1, hn]
  have e2 : zu.length = ks.length := by rw [← rz.length, l2, hn1]
  refine wpAny_call (codeAny_mono (F.run X.A X.stack s2 H2 ⟨vu, ks.zip zu⟩ (vu ++ zu) (vs ++ zs) Q (L2.WE W σ) hr hgu I2.env0 (hb s2 vu zu I2.kIn e1 e2) (r.append rz) q2) fun res s' hq => ?_)
  match res, hq with
  | .ok (.ret u), hq => exact I2.after hq
  | .ok .next, hq => exact hq.elim
  | .ok .brk, hq => exact hq.elim
  | .ok .cont, hq => exact hq.elim
  | .error e, hq => exact passAt tk σ pins H2 s2 e s' I2 hq
structure CalleeXD (P : Program) (w : World) (K : PySem.W.Frag) (mg : Str → Option Value) (base : Heap) (k : Nat) (x : Str) (ps : List Str) (d : D) (C : WDX) : Prop where
  ex : ∃ (f : Addr) (fd : FuncData) (v : V) (u : Value), FnG P w K mg base (L2.CX P w) k f fd ps (spX K ps.length C) ∧ mg x = some (.ref f) ∧ PySem.W.keepIn K (.ref f) = true ∧ (∀ A H, RepV K A H v d) ∧ Vals [v] [u] ∧ Binds K fd ps [u]
theorem CalleeXD.call {X : Cx} {W : WX} {k : Nat} {x : Str} {ps : List Str} {d : D} {C : WDX} {p pos : Pos} {e : Expr} {es : List Expr} {ws : List WE} (c : CalleeXD X.prog X.w X.K X.mg X.base k x ps d C) (tk : Takes X W) (hr : Room k X.A) (hgu : X.A.guards = some []) (hg : Gl X x) (ha : MA X (e :: es) ws)
    (hn : ws.length + 1 = ps.length := by rfl) (hdb : (x == ("__debug__" : Str)) = false := by decide) (he : starEach (e :: es) X.env = (false, eval e X.env) :: starEach es X.env := by rfl) (hpl : (backTo pos (starEach es X.env)).any (·.1) = false := by rfl) :
    MEX X W (.Call (.Name x p) (e :: es) [] pos) (wCallXPK C ws [wC d]) := by
  obtain ⟨f, fd, v, u0, F, hm, hk, hv, hd, hb⟩ := c.ex
  rw [← hn] at F
  refine ⟨fun pins s σ H Q I ⟨B, ρ, Q', ex, R, hw, hq, hx⟩ => ?_⟩
  refine wpAny_Call_Name_kw (ld_glob I hg hm ?_ hdb)
  have h := ta_mono (callXPK_ok (W := W) (us := [wC d]) R hw hq hx) fun vs H1 h => And.intro h.1 (ta_wC hv h.2).2
  refine PySem.W.callWith_K (h₀ := X.base) I.ok.mod.kin hk (thn (ha.run pos pins s σ H _ I h) fun us s1 ⟨vs, H1, I1, r, hl, q⟩ => ⟨I1.kIn, ?_⟩) he hpl
  have e1 : (us ++ [u0]).length = ps.length := by rw [List.length_append, ← r.length, hl, ← hn]; rfl
  refine wpAny_call (codeAny_mono (F.run X.A X.stack s1 H1 ⟨us, []⟩ (us ++ [u0]) (vs ++ [v]) Q (L2.WE W σ) hr hgu I1.env0 (hb s1 us I1.kIn e1) (r.append hd) q) fun res s' hq => ?_)
  match res, hq with
  | .ok (.ret u), hq => exact I1.after hq
  | .ok .next, hq => exact hq.elim
  | .ok .brk, hq => exact hq.elim
  | .ok .cont, hq => exact hq.elim
  | .error e, hq => exact passAt tk σ pins H1 s1 e s' I1 hq
end Dl
namespace Lw
open PySem L2 Dl
namespace Tk
def topS (i : Nat) : Stmt := PySem.Challenge.pw_piecefacts_k05_conditions_of_any_values.main.body.getD i (.Pass ⟨0, 0, 0, 0⟩)
def clsS (i j : Nat) : Stmt := match topS i with
  | .ClassDef _ _ _ b _ _ _ _ _ _ _ => b.getD j (.Pass ⟨0, 0, 0, 0⟩)
  | s => s
abbrev sx_BadColumn : Stmt := clsS 39 0
abbrev sx_BadRanges : Stmt := clsS 40 0
abbrev sx_BadFlag : Stmt := clsS 41 0
abbrev s_is_integer : Stmt := topS 2
abbrev s_is_pair : Stmt := topS 3
abbrev s_is_ranges : Stmt := topS 4
abbrev s_united : Stmt := topS 5
abbrev s_both : Stmt := topS 6
abbrev s_either : Stmt := topS 7
abbrev s_gaps : Stmt := topS 8
abbrev s_without : Stmt := topS 9
abbrev s_is_column : Stmt := topS 23
abbrev s_are_within : Stmt := topS 24
abbrev s_is_taken_set : Stmt := topS 25
abbrev s_columns_in : Stmt := topS 26
abbrev s_widest_in : Stmt := topS 27
abbrev s_settled : Stmt := topS 36
abbrev s_pair_text : Stmt := topS 49
abbrev s_condition_text : Stmt := topS 50
abbrev s_tree_text : Stmt := topS 51
abbrev s_Question___init__ : Stmt := clsS 53 0
abbrev s_Question_columns : Stmt := clsS 53 1
abbrev s_where : Stmt := topS 54
abbrev s__law_pot : Stmt := topS 56
abbrev s__law_draw : Stmt := topS 57
abbrev s__law_any : Stmt := topS 58
abbrev s__law_odd : Stmt := topS 59
abbrev s__law_spans : Stmt := topS 60
abbrev s__law_is_integer : Stmt := topS 61
abbrev s__law_is_set : Stmt := topS 62
abbrev s__law_is_name : Stmt := topS 63
abbrev s__law_con_text : Stmt := topS 64
abbrev s__law_met : Stmt := topS 66
abbrev s__law_three : Stmt := topS 67
abbrev s__law_due : Stmt := topS 68
abbrev s__law_shown : Stmt := topS 69
abbrev s__law_right : Stmt := topS 70
abbrev s_law : Stmt := topS 71
abbrev d0 : Hd.FnE := ⟨fun K => He.ga K "is_integer", "is_integer", "is_integer", s_is_integer⟩
abbrev d1 : Hd.FnE := ⟨fun K => He.ga K "is_pair", "is_pair", "is_pair", s_is_pair⟩
abbrev d2 : Hd.FnE := ⟨fun K => He.ga K "is_ranges", "is_ranges", "is_ranges", s_is_ranges⟩
abbrev d3 : Hd.FnE := ⟨fun K => He.ga K "united", "united", "united", s_united⟩
abbrev d4 : Hd.FnE := ⟨fun K => He.ga K "both", "both", "both", s_both⟩
abbrev d5 : Hd.FnE := ⟨fun K => He.ga K "either", "either", "either", s_either⟩
abbrev d6 : Hd.FnE := ⟨fun K => He.ga K "gaps", "gaps", "gaps", s_gaps⟩
abbrev d7 : Hd.FnE := ⟨fun K => He.ga K "without", "without", "without", s_without⟩
abbrev d8 : Hd.FnE := ⟨fun K => He.ga K "is_column", "is_column", "is_column", s_is_column⟩
abbrev d9 : Hd.FnE := ⟨fun K => He.ga K "are_within", "are_within", "are_within", s_are_within⟩
abbrev d10 : Hd.FnE := ⟨fun K => He.ga K "is_taken_set", "is_taken_set", "is_taken_set", s_is_taken_set⟩
abbrev d11 : Hd.FnE := ⟨fun K => He.ga K "columns_in", "columns_in", "columns_in", s_columns_in⟩
abbrev d12 : Hd.FnE := ⟨fun K => He.ga K "widest_in", "widest_in", "widest_in", s_widest_in⟩
abbrev d13 : Hd.FnE := ⟨fun K => He.ga K "settled", "settled", "settled", s_settled⟩
abbrev d14 : Hd.FnE := ⟨fun K => He.ga K "pair_text", "pair_text", "pair_text", s_pair_text⟩
abbrev d15 : Hd.FnE := ⟨fun K => He.ga K "condition_text", "condition_text", "condition_text", s_condition_text⟩
abbrev d16 : Hd.FnE := ⟨fun K => He.ga K "tree_text", "tree_text", "tree_text", s_tree_text⟩
abbrev d17 : Hd.FnE := ⟨fun K => He.ma K (He.ga K "Question") "__init__", "__init__", "Question.__init__", s_Question___init__⟩
abbrev d18 : Hd.FnE := ⟨fun K => Hd.recA K (He.ma K (He.ga K "Question") "columns"), "columns", "Question.columns", s_Question_columns⟩
abbrev d19 : Hd.FnE := ⟨fun K => He.ga K "where", "where", "where", s_where⟩
abbrev d20 : Hd.FnE := ⟨fun K => He.ga K "_law_pot", "_law_pot", "_law_pot", s__law_pot⟩
abbrev d21 : Hd.FnE := ⟨fun K => He.ga K "_law_draw", "_law_draw", "_law_draw", s__law_draw⟩
abbrev d22 : Hd.FnE := ⟨fun K => He.ga K "_law_any", "_law_any", "_law_any", s__law_any⟩
abbrev d23 : Hd.FnE := ⟨fun K => He.ga K "_law_odd", "_law_odd", "_law_odd", s__law_odd⟩
abbrev d24 : Hd.FnE := ⟨fun K => He.ga K "_law_spans", "_law_spans", "_law_spans", s__law_spans⟩
abbrev d25 : Hd.FnE := ⟨fun K => He.ga K "_law_is_integer", "_law_is_integer", "_law_is_integer", s__law_is_integer⟩
abbrev d26 : Hd.FnE := ⟨fun K => He.ga K "_law_is_set", "_law_is_set", "_law_is_set", s__law_is_set⟩
abbrev d27 : Hd.FnE := ⟨fun K => He.ga K "_law_is_name", "_law_is_name", "_law_is_name", s__law_is_name⟩
abbrev d28 : Hd.FnE := ⟨fun K => He.ga K "_law_con_text", "_law_con_text", "_law_con_text", s__law_con_text⟩
abbrev d29 : Hd.FnE := ⟨fun K => He.ga K "_law_met", "_law_met", "_law_met", s__law_met⟩
abbrev d30 : Hd.FnE := ⟨fun K => He.ga K "_law_three", "_law_three", "_law_three", s__law_three⟩
abbrev d31 : Hd.FnE := ⟨fun K => He.ga K "_law_due", "_law_due", "_law_due", s__law_due⟩
abbrev d32 : Hd.FnE := ⟨fun K => He.ga K "_law_shown", "_law_shown", "_law_shown", s__law_shown⟩
abbrev d33 : Hd.FnE := ⟨fun K => He.ga K "_law_right", "_law_right", "_law_right", s__law_right⟩
abbrev d34 : Hd.FnE := ⟨fun K => He.ga K "law", "law", "law", s_law⟩
abbrev x0 : Hd.FnE := ⟨fun K => He.ma K (He.ga K "BadColumn") "__init__", "__init__", "BadColumn.__init__", sx_BadColumn⟩
abbrev x1 : Hd.FnE := ⟨fun K => He.ma K (He.ga K "BadRanges") "__init__", "__init__", "BadRanges.__init__", sx_BadRanges⟩
abbrev x2 : Hd.FnE := ⟨fun K => He.ma K (He.ga K "BadFlag") "__init__", "__init__", "BadFlag.__init__", sx_BadFlag⟩
def xsL : List Hd.FnE := [x0, x1, x2]
def exl : List (Str × Str) := [("BadColumn", "value"), ("BadRanges", "value"), ("BadFlag", "value")]
theorem bx_BadColumn : SupX.SupBody "value" (defArgs sx_BadColumn) (defBody sx_BadColumn) (defScope sx_BadColumn) := ⟨by decide +kernel, by kernel_rfl, ⟨by kernel_rfl, by kernel_rfl, by kernel_rfl⟩, ⟨_, rfl, rfl⟩, fun _ _ _ _ _ _ _ _ _ => by kernel_rfl, ⟨_, _, _, _, _, _, _, _, _, _, rfl, fun _ => ⟨_, rfl⟩, fun _ => rfl, fun _ => rfl, fun _ => rfl⟩⟩
theorem bx_BadRanges : SupX.SupBody "value" (defArgs sx_BadRanges) (defBody sx_BadRanges) (defScope sx_BadRanges) := ⟨by decide +kernel, by kernel_rfl, ⟨by kernel_rfl, by kernel_rfl, by kernel_rfl⟩, ⟨_, rfl, rfl⟩, fun _ _ _ _ _ _ _ _ _ => by kernel_rfl, ⟨_, _, _, _, _, _, _, _, _, _, rfl, fun _ => ⟨_, rfl⟩, fun _ => rfl, fun _ => rfl, fun _ => rfl⟩⟩
theorem bx_BadFlag : SupX.SupBody "value" (defArgs sx_BadFlag) (defBody sx_BadFlag) (defScope sx_BadFlag) := ⟨by decide +kernel, by kernel_rfl, ⟨by kernel_rfl, by kernel_rfl, by kernel_rfl⟩, ⟨_, rfl, rfl⟩, fun _ _ _ _ _ _ _ _ _ => by kernel_rfl, ⟨_, _, _, _, _, _, _, _, _, _, rfl, fun _ => ⟨_, rfl⟩, fun _ => rfl, fun _ => rfl, fun _ => rfl⟩⟩
abbrev mkA : Hd.Fg → Addr := fun K => He.ga K "_law_right"
def fn : List Hd.FnE := ([d0, d1, d2, d3, d4, d5, d6, d7, d8, d9, d10, d11, d12, d13, d14, d15, d16, d17, d18, d19, d20, d21, d22, d23, d24, d25, d26, d27, d28, d29] : List Hd.FnE) ++ ([d30, d31, d32, d33, d34] : List Hd.FnE)
def fs0 : List (Hd.Fg → Bool) := [Hd.glo "Question", (fun K => PySem.W.plainGet K (He.ga K "Question") Str.empty), (fun K => PySem.W.hasDictIn K (He.ga K "Question")), (fun K => PySem.W.plainOver K (He.ga K "Question")), (fun K => PySem.W.makesIn K (He.ga K "Question")), (fun K => PySem.W.keepIn K (.ref (He.ga K "Question"))), (fun K => PySem.W.selfFirst K (He.ga K "Question")), Hd.fnd (fun K => He.ga K "Question") "__setattr__" (some (.builtin "object.__setattr__")), Hd.fnd (fun K => He.ga K "Question") "tree" none, Hd.fnd (fun K => He.ga K "Question") "column_list" none, Hd.fnd (fun K => He.ga K "Question") "string" none, Hd.glo "is_integer", Hd.glo "is_pair", Hd.glo "is_ranges", Hd.glo "united", Hd.glo "both", Hd.glo "either", Hd.glo "gaps", Hd.glo "without", Hd.glo "is_column", Hd.glo "are_within", Hd.glo "is_taken_set", Hd.glo "columns_in", Hd.glo "widest_in", Hd.glo "settled", Hd.glo "pair_text", Hd.glo "condition_text", Hd.glo "tree_text", Hd.mth "Question" "__init__", Hd.prp "Question" "columns"]
def fs1 : List (Hd.Fg → Bool) := [Hd.glo "where", Hd.dkB (fun K => He.ga K "where") "missing" (.bool false), Hd.glo "_law_pot", Hd.glo "_law_draw", Hd.glo "_law_any", Hd.glo "_law_odd", Hd.glo "_law_spans", Hd.glo "_law_is_integer", Hd.glo "_law_is_set", Hd.glo "_law_is_name", Hd.glo "_law_con_text", Hd.glo "_law_met", Hd.glo "_law_three", Hd.glo "_law_due", Hd.glo "_law_shown", Hd.glo "_law_right", Hd.glo "law", Hd.fre "int", Hd.fre "isinstance", Hd.fre "bool", Hd.fre "tuple", Hd.fre "len", Hd.fre "all", Hd.fre "zip", Hd.fre "sorted", Hd.fre "max", Hd.fre "min", Hd.fre "str", Hd.fre "abs", Hd.fre "range"]
def fs2 : List (Hd.Fg → Bool) := [Hd.fre "repr", Hd.fre "any", Hd.cst "PAIR" (.int (2)), Hd.cst "MOST_LETTERS" (.int (8)), Hd.cst "WORDS" (.tup [(.str "and"), (.str "or")]), Hd.cst "SMALL" (.str "abcdefghijklmnopqrstuvwxyz"), Hd.cst "LEAST" (.int (-9999)), Hd.cst "GREATEST" (.int (9999)), Hd.cst "MOST_PAIRS" (.int (4)), Hd.cst "CONDITION" (.str "condition"), Hd.cst "JOINED" (.str "joined"), Hd.cst "NEGATED" (.str "negated"), Hd.cst "BETWEEN" (.str ".."), Hd.cst "MISSING" (.str "?"), Hd.cst "NOTHING" (.str "-"), Hd.cst "MOST_COLUMNS" (.int (8)), Hd.supB PySem.Challenge.rw_piecefacts_k05_conditions_of_any_values.prog.main.file "BadColumn" "value" "BadColumn.__init__", Hd.supB PySem.Challenge.rw_piecefacts_k05_conditions_of_any_values.prog.main.file "BadRanges" "value" "BadRanges.__init__", Hd.supB PySem.Challenge.rw_piecefacts_k05_conditions_of_any_values.prog.main.file "BadFlag" "value" "BadFlag.__init__", Hd.catB "FactsError" exl, Hd.catB "BadColumn" exl, Hd.catB "BadRanges" exl, Hd.catB "BadFlag" exl, Hd.catT "ValueError" "ValueError" exl]
def fs : List (Hd.Fg → Bool) := fs0 ++ fs1 ++ fs2
def nm0 : List Str := ["PAIR", "is_integer", "is_pair", "is_ranges", "united", "both", "either", "gaps", "without", "LEAST", "GREATEST", "SMALL", "WORDS", "MOST_LETTERS", "MOST_PAIRS", "MOST_COLUMNS", "CONDITION", "AND", "OR", "JOINED", "NEGATED", "is_column", "are_within", "is_taken_set", "columns_in", "widest_in", "merged", "parts_of", "least_column", "with_twin"]
def nm1 : List Str := ["joined", "are_alike", "negated", "takes", "settled", "FactsError", "BadColumn", "BadRanges", "BadFlag", "NoColumn", "Twice", "TooMany", "BETWEEN", "MISSING", "NOTHING", "pair_text", "condition_text", "tree_text", "Question", "where", "_law_pot", "_law_draw", "_law_any", "_law_odd", "_law_spans", "_law_is_integer", "_law_is_set", "_law_is_name", "_law_con_text", "_law_text_of"]
def nm2 : List Str := ["_law_met", "_law_three", "_law_due", "_law_shown", "_law_right"]
def nms : List Str := nm0 ++ nm1 ++ nm2
abbrev Rw : PySem.W.OpenRow := PySem.W.OpenLaw.row PySem.Challenge.rw_piecefacts_k05_conditions_of_any_values
abbrev ads : List Addr := List.range 1500
set_option maxHeartbeats 0 in
theorem hrun (w : World) : HandSHeadRun.RunEq Rw (PySem.W.view Rw.prog [71]) (Hd.hookX ads fs fn xsL mkA) (Hd.obX ads fs fn xsL mkA) 40000 nms w := by
  intro os
  kernel_rfl
open PySem.W PyProof.Rows in
set_option maxHeartbeats 0 in
noncomputable def headP : { P : Prop // P → PySem.Challenge.rw_piecefacts_k05_conditions_of_any_values.Holds } := by
  refine ⟨?P, ?h⟩
  case h =>
    intro hP
    w_on; o_law
    refine HandSHeadRun.head_any (r := PySem.W.OpenLaw.row PySem.Challenge.rw_piecefacts_k05_conditions_of_any_values) (q := view (PySem.W.OpenLaw.row PySem.Challenge.rw_piecefacts_k05_conditions_of_any_values).prog [71]) (H := Dl.Hd.hookX Lw.Tk.ads Lw.Tk.fs Lw.Tk.fn Lw.Tk.xsL Lw.Tk.mkA) (ob := Dl.Hd.obX Lw.Tk.ads Lw.Tk.fs Lw.Tk.fn Lw.Tk.xsL Lw.Tk.mkA) (M := 40000) (loose := Lw.Tk.nms) (d := HandSHeadRun.topDef (PySem.W.OpenLaw.row PySem.Challenge.rw_piecefacts_k05_conditions_of_any_values).prog 71) (kwd := []) Dl.Hd.obX_eq
      (by kernel_rfl) (fun s => by kernel_rfl) Lw.Tk.hrun (by kernel_rfl) (by kernel_rfl) (by kernel_rfl) (by rfl) (by first | assumption | decide +kernel) (by decide +kernel) ⟨rfl, rfl, rfl, rfl, rfl, by decide +kernel⟩ ?hw ?hc
    case hw => w_witness2
    case hc => exact hP
end Tk
end Lw
namespace Rs
abbrev RS := List (Int × Int)
def In (rs : RS) (x : Int) : Prop := ∃ p ∈ rs, p.1 ≤ x ∧ x ≤ p.2
def Ok (rs : RS) : Prop := ∀ p ∈ rs, p.1 ≤ p.2
def Gap (p q : Int × Int) : Prop := p.2 + 1 < q.1
structure Canon (rs : RS) : Prop where
  ok : Ok rs
  gap : rs.Pairwise Gap
theorem In.nil {x : Int} : ¬ In [] x := fun ⟨p, h, _⟩ => by cases h
theorem in_cons {p : Int × Int} {rs : RS} {x : Int} : In (p :: rs) x ↔ (p.1 ≤ x ∧ x ≤ p.2) ∨ In rs x := by
  constructor
  · rintro ⟨q, h, hx⟩
    rcases List.mem_cons.mp h with rfl | h
    · exact .inl hx
    · exact .inr ⟨q, h, hx⟩
  · rintro (h | ⟨q, h, hx⟩)
    · exact ⟨p, by simp, h⟩
    · exact ⟨q, List.mem_cons_of_mem _ h, hx⟩
theorem in_append {rs ss : RS} {x : Int} : In (rs ++ ss) x ↔ In rs x ∨ In ss x := by
  constructor
  · rintro ⟨q, h, hx⟩
    rcases List.mem_append.mp h with h | h
    · exact .inl ⟨q, h, hx⟩
    · exact .inr ⟨q, h, hx⟩
  · rintro (⟨q, h, hx⟩ | ⟨q, h, hx⟩)
    · exact ⟨q, List.mem_append_left _ h, hx⟩
    · exact ⟨q, List.mem_append_right _ h, hx⟩
theorem Canon.nil : Canon [] := ⟨fun _ h => (nomatch h), .nil⟩
theorem Canon.tail {p : Int × Int} {rs : RS} (h : Canon (p :: rs)) : Canon rs := ⟨fun q hq => h.ok q (List.mem_cons_of_mem _ hq), (List.pairwise_cons.mp h.gap).2⟩
theorem Canon.head {p : Int × Int} {rs : RS} (h : Canon (p :: rs)) : p.1 ≤ p.2 := h.ok p (by simp)
theorem Canon.above {p : Int × Int} {rs : RS} (h : Canon (p :: rs)) {x : Int} (hx : In rs x) : p.2 + 1 < x := by
  obtain ⟨q, hq, h1, _⟩ := hx
  have := (List.pairwise_cons.mp h.gap).1 q hq
  unfold Gap at this
  omega
theorem canon_snoc {rs : RS} {p : Int × Int} (h : Canon rs) (hp : p.1 ≤ p.2) (hg : ∀ q ∈ rs, Gap q p) : Canon (rs ++ [p]) :=
  ⟨fun q hq => (List.mem_append.mp hq).elim (h.ok q) fun z => by rw [List.mem_singleton.mp z]; exact hp, List.pairwise_append.mpr ⟨h.gap, by simp, fun q hq r hr => by rw [List.mem_singleton.mp hr]; exact hg q hq⟩⟩
end Rs
namespace Lw
open PySem L2 Dl Rs
def rsD (rs : RS) : D := .tup (rs.map pairD)
abbrev k_PAIR : D := .int 2
def isIntD : D → Bool
  | .int _ => true
  | _ => false
def typed (d : D) : Prop := (tyD d).isSome = true
def C_is_integer : WE := fun args Q => ∃ d, args = [.fro d] ∧ typed d ∧ Q (.fro (.bl (isIntD d))) [.fro d]
def isPairD : D → Bool
  | .tup [.int a, .int b] => decide (a ≤ b)
  | _ => false
def C_is_pair : WE := fun args Q => ∃ d, args = [.fro d] ∧ typed d ∧ (∀ x y, d = .tup [x, y] → typed x ∧ typed y) ∧ Q (.fro (.bl (isPairD d))) [.fro d]
def apart : List D → Bool
  | .tup [.int _, .int b] :: .tup [.int c, .int d] :: r => decide (b + 1 < c) && apart (.tup [.int c, .int d] :: r)
  | _ => true
def isRsD : D → Bool
  | .tup ds => ds.all isPairD && apart ds
  | _ => false
def C_is_ranges : WE := fun args Q => ∃ d, args = [.fro d] ∧ typed d ∧ (∀ ds, d = .tup ds → ds.length ≤ 1000000 ∧ (∀ e ∈ ds, typed e ∧ ∀ x y, e = .tup [x, y] → typed x ∧ typed y)) ∧ Q (.fro (.bl (isRsD d))) [.fro d]
def C_united : WE := fun args Q => ∃ ps : RS, (args = [.fro (.lst (ps.map pairD))] ∨ args = [.fro (.tup (ps.map pairD))]) ∧ Ok ps ∧ ps.length ≤ 10000000 ∧
  ∀ rs, Canon rs → rs.length ≤ ps.length → (∀ x, In rs x ↔ In ps x) → Q (.fro (rsD rs)) args
def C_both : WE := fun args Q => ∃ a b : RS, args = [.fro (rsD a), .fro (rsD b)] ∧ Canon a ∧ Canon b ∧ a.length ≤ 1000000 ∧ b.length ≤ 1000000 ∧
  ∀ rs, Canon rs → rs.length ≤ a.length + b.length → (∀ x, In rs x ↔ In a x ∧ In b x) → Q (.fro (rsD rs)) args
def C_either : WE := fun args Q => ∃ a b : RS, args = [.fro (rsD a), .fro (rsD b)] ∧ Ok a ∧ Ok b ∧ a.length ≤ 1000000 ∧ b.length ≤ 1000000 ∧
  ∀ rs, Canon rs → rs.length ≤ a.length + b.length → (∀ x, In rs x ↔ In a x ∨ In b x) → Q (.fro (rsD rs)) args
def C_gaps : WE := fun args Q => ∃ (a : RS) (lo hi : Int), args = [.fro (rsD a), .fro (.int lo), .fro (.int hi)] ∧ Canon a ∧ lo ≤ hi ∧ a.length ≤ 100000 ∧
  ∀ rs, Canon rs → rs.length ≤ a.length + 2 → (∀ x, In rs x ↔ (lo ≤ x ∧ x ≤ hi) ∧ ¬ In a x) → Q (.fro (rsD rs)) args
def C_without : WE := fun args Q => ∃ a b : RS, args = [.fro (rsD a), .fro (rsD b)] ∧ Canon a ∧ Canon b ∧ a.length ≤ 100000 ∧ b.length ≤ 100000 ∧
  ∀ rs, Canon rs → rs.length ≤ a.length + b.length + 2 → (∀ x, In rs x ↔ In a x ∧ ¬ In b x) → Q (.fro (rsD rs)) args
def SumsTo (a : RS) : Nat → Int → Prop
  | 0, x => x = 0
  | n + 1, x => ∃ y z, SumsTo a n y ∧ In a z ∧ x = y + z
theorem noOwn_fro (ds : List D) : noOwn (ds.map .fro) := fun i o e => by
  rw [List.getElem?_map] at e
  cases q : ds[i]? with
  | none => rw [q] at e; cases e
  | some d => rw [q] at e; cases e
theorem noOwn1 (d : D) : noOwn [.fro d] := noOwn_fro [d]
theorem noOwn2 (d e : D) : noOwn [.fro d, .fro e] := noOwn_fro [d, e]
theorem noOwn3 (d e f : D) : noOwn [.fro d, .fro e, .fro f] := noOwn_fro [d, e, f]
theorem big (n : Nat) (h : n ≤ 16000000) : n ≤ sizeLine := Nat.le_trans h (by decide)
theorem big' (n : Nat) (h : n < 16000000) : n < sizeLine := Nat.lt_of_lt_of_le h (by decide)
theorem atI_0 {α : Type} {x : α} {r : List α} : atI (x :: r) 0 = some x := atI_nat (j := 0) rfl
theorem atI_1 {α : Type} {x y : α} {r : List α} : atI (x :: y :: r) 1 = some y := atI_nat (j := 1) rfl
theorem atI_2 {α : Type} {x y z : α} {r : List α} : atI (x :: y :: z :: r) 2 = some z := atI_nat (j := 2) rfl
theorem atI_m1 {α : Type} {x : α} {r : List α} : atI (r ++ [x]) (-1) = some x := atI_last r x
theorem shD_int (i : Int) : shD (.int i) := ⟨rfl, rfl⟩
theorem gEq_int {a b : Int} {k : Dl.Slot → Prop} : gEq (.int a) (.int b) k = k (.fro (.bl (decide (a = b)))) := by
  have e : PyData.eqv (pyD (.int a)) (pyD (.int b)) = decide (a = b) := Bool.beq_eq_decide_eq a b
  rw [gEq_sh (shD_int a) (shD_int b), e]
theorem gNe_int {a b : Int} {k : Dl.Slot → Prop} : gNe (.int a) (.int b) k = k (.fro (.bl (!decide (a = b)))) := by
  have e : PyData.eqv (pyD (.int a)) (pyD (.int b)) = decide (a = b) := Bool.beq_eq_decide_eq a b
  rw [gNe_sh (shD_int a) (shD_int b), e]
theorem canLayAll_pairs : ∀ rs : RS, PyData.canLayAll0 (pyL (rs.map pairD)) = true
  | [] => rfl
  | p :: rs => by
    show (PyData.canLay0 (pyD (pairD p)) && PyData.canLayAll0 (pyL (rs.map pairD))) = true
    rw [canLayAll_pairs rs]
    rfl
theorem depthAll_pairs : ∀ rs : RS, PyData.depthAll (pyL (rs.map pairD)) ≤ 2
  | [] => by decide
  | p :: rs => by
    have ih := depthAll_pairs rs
    have e : PyData.depthAll (pyL ((p :: rs).map pairD)) = max (PyData.depth (pyD (pairD p))) (PyData.depthAll (pyL (rs.map pairD))) := rfl
    have e2 : PyData.depth (pyD (pairD p)) = 1 := rfl
    rw [e, e2]
    omega
theorem plain_pairs : ∀ rs : RS, plainL (rs.map pairD) = true
  | [] => rfl
  | p :: rs => by
    show (plainD (pairD p) && plainL (rs.map pairD)) = true
    rw [plain_pairs rs]
    rfl
theorem shD_rs (rs : RS) : shD (rsD rs) := by
  refine ⟨plain_pairs rs, ?_⟩
  unfold SeqAt.shaped
  have h1 : PyData.canLay0 (pyD (rsD rs)) = true := canLayAll_pairs rs
  have h2 : PyData.depth (pyD (rsD rs)) ≤ 64 := by
    have := depthAll_pairs rs
    show PyData.depthAll (pyL (rs.map pairD)) + 1 ≤ 64
    omega
  rw [h1, decide_eq_true h2]
  rfl
theorem eqvAll_pairs : ∀ rs ss : RS, PyData.eqvAll (pyL (rs.map pairD)) (pyL (ss.map pairD)) = decide (rs = ss)
  | [], [] => rfl
  | [], q :: ss => rfl
  | p :: rs, [] => rfl
  | p :: rs, q :: ss => by
    show (PyData.eqv (pyD (pairD p)) (pyD (pairD q)) && PyData.eqvAll (pyL (rs.map pairD)) (pyL (ss.map pairD))) = _
    rw [eqvAll_pairs rs ss]
    have e : PyData.eqv (pyD (pairD p)) (pyD (pairD q)) = decide (p = q) := by
      show ((p.1 == q.1) && ((p.2 == q.2) && true)) = _
      obtain ⟨a, b⟩ := p
      obtain ⟨c, d⟩ := q
      by_cases h1 : a = c <;> by_cases h2 : b = d <;> simp [h1, h2]
    rw [e]
    by_cases h1 : p = q <;> by_cases h2 : rs = ss <;> simp [h1, h2]
theorem gEq_rs {a b : RS} {k : Dl.Slot → Prop} : gEq (rsD a) (rsD b) k = k (.fro (.bl (decide (a = b)))) := by
  have e : PyData.eqv (pyD (rsD a)) (pyD (rsD b)) = decide (a = b) := eqvAll_pairs a b
  rw [gEq_sh (shD_rs a) (shD_rs b), e]
theorem kt_NoneType_int : kitB "NoneType" "int" = some false := by decide +kernel
theorem kt_bool_int : kitB "bool" "int" = some true := by decide +kernel
theorem kt_int_int : kitB "int" "int" = some true := by decide +kernel
theorem kt_str_int : kitB "str" "int" = some false := by decide +kernel
theorem kt_tuple_int : kitB "tuple" "int" = some false := by decide +kernel
theorem kt_list_int : kitB "list" "int" = some false := by decide +kernel
theorem kt_dict_int : kitB "dict" "int" = some false := by decide +kernel
theorem kt_NoneType_bool : kitB "NoneType" "bool" = some false := by decide +kernel
theorem kt_bool_bool : kitB "bool" "bool" = some true := by decide +kernel
theorem kt_int_bool : kitB "int" "bool" = some false := by decide +kernel
theorem kt_str_bool : kitB "str" "bool" = some false := by decide +kernel
theorem kt_tuple_bool : kitB "tuple" "bool" = some false := by decide +kernel
theorem kt_list_bool : kitB "list" "bool" = some false := by decide +kernel
theorem kt_dict_bool : kitB "dict" "bool" = some false := by decide +kernel
theorem kt_NoneType_tuple : kitB "NoneType" "tuple" = some false := by decide +kernel
theorem kt_bool_tuple : kitB "bool" "tuple" = some false := by decide +kernel
theorem kt_int_tuple : kitB "int" "tuple" = some false := by decide +kernel
theorem kt_str_tuple : kitB "str" "tuple" = some false := by decide +kernel
theorem kt_tuple_tuple : kitB "tuple" "tuple" = some true := by decide +kernel
theorem kt_list_tuple : kitB "list" "tuple" = some false := by decide +kernel
theorem kt_dict_tuple : kitB "dict" "tuple" = some false := by decide +kernel
theorem kt_NoneType_str : kitB "NoneType" "str" = some false := by decide +kernel
theorem kt_bool_str : kitB "bool" "str" = some false := by decide +kernel
theorem kt_int_str : kitB "int" "str" = some false := by decide +kernel
theorem kt_str_str : kitB "str" "str" = some true := by decide +kernel
theorem kt_tuple_str : kitB "tuple" "str" = some false := by decide +kernel
theorem kt_list_str : kitB "list" "str" = some false := by decide +kernel
theorem kt_dict_str : kitB "dict" "str" = some false := by decide +kernel
def isIntB : D → Bool
  | .int _ => true
  | .bl _ => true
  | _ => false
def isBlD : D → Bool
  | .bl _ => true
  | _ => false
def isTupD : D → Bool
  | .tup _ => true
  | _ => false
def isStrD : D → Bool
  | .str _ => true
  | _ => false
theorem isD_int {d : D} (h : typed d) : isD "int" d = some (isIntB d) := by
  cases d with
  | non => exact kt_NoneType_int
  | bl b => exact kt_bool_int
  | int i => exact kt_int_int
  | str x => exact kt_str_int
  | tup ds => exact kt_tuple_int
  | lst ds => exact kt_list_int
  | dct ds => exact kt_dict_int
  | raw v => cases h
  | arg ns => cases h
  | tix ys => cases h
  | obj c fs => cases h
  | exc c f v => cases h
  | fn f c q vs ds => cases h
theorem isD_bool {d : D} (h : typed d) : isD "bool" d = some (isBlD d) := by
  cases d with
  | non => exact kt_NoneType_bool
  | bl b => exact kt_bool_bool
  | int i => exact kt_int_bool
  | str x => exact kt_str_bool
  | tup ds => exact kt_tuple_bool
  | lst ds => exact kt_list_bool
  | dct ds => exact kt_dict_bool
  | raw v => cases h
  | arg ns => cases h
  | tix ys => cases h
  | obj c fs => cases h
  | exc c f v => cases h
  | fn f c q vs ds => cases h
theorem isD_tuple {d : D} (h : typed d) : isD "tuple" d = some (isTupD d) := by
  cases d with
  | non => exact kt_NoneType_tuple
  | bl b => exact kt_bool_tuple
  | int i => exact kt_int_tuple
  | str x => exact kt_str_tuple
  | tup ds => exact kt_tuple_tuple
  | lst ds => exact kt_list_tuple
  | dct ds => exact kt_dict_tuple
  | raw v => cases h
  | arg ns => cases h
  | tix ys => cases h
  | obj c fs => cases h
  | exc c f v => cases h
  | fn f c q vs ds => cases h
theorem isD_str {d : D} (h : typed d) : isD "str" d = some (isStrD d) := by
  cases d with
  | non => exact kt_NoneType_str
  | bl b => exact kt_bool_str
  | int i => exact kt_int_str
  | str x => exact kt_str_str
  | tup ds => exact kt_tuple_str
  | lst ds => exact kt_list_str
  | dct ds => exact kt_dict_str
  | raw v => cases h
  | arg ns => cases h
  | tix ys => cases h
  | obj c fs => cases h
  | exc c f v => cases h
  | fn f c q vs ds => cases h
end Lw
namespace Lw
open PySem L2 Dl Rs
local macro_rules | `(tactic| walk_at "dl") => `(tactic| simp (config := { maxSteps := 400000 }) only [wSeq, wIfS, wAnd, wOr, wNot, wRet, wDrop, wNext, wBrk, wCnt, wAndV, wOrV, wNotV, wB, wIf, wCB, wArgs, wVar, wC, wTup, wLst, wOp, wChain, wNeg, wSl, wP, wNoP, wSet, wPar, wAsg, wCall, wCallP, wCallN, wApp, wExt, wMt, gApp, gExt, wSetIx, wSeqI, wRng1, wRng2, wZip, wEnum, wFor, withL, lookL, lookD, with2, frz, frzL, prep, put, notLent, kindO, gTp, gNms, gNm, O.d, itemsOf, leave, endsOf, outsOf, clean, wYes,
    gI, gIC, Dl.gSub, gFdiv, gMod, gPow, gLt, gLe, gGt, gGe, gAdd, gMul, gIsN, gNotN, Dl.isNon, gIx, gSl, gLen, gAbs, gInt1, gMax2, gMin2, gTuple, gList, gIsi, atI_0, atI_1, atI_2, atI_m1,
    List.getElem?_cons_zero, List.getElem?_cons_succ, List.set_cons_zero, List.set_cons_succ, List.cons_append, List.nil_append, List.append_nil, List.replicate, List.length_cons, List.length_nil, List.map_cons, List.map_nil, Nat.reduceAdd, Nat.reduceSub, Nat.add_one_sub_one,
    true_and, and_true, if_true, if_false, Bool.false_eq_true, Bool.not_true, Bool.not_false, reduceIte, ite_true, ite_false])
local macro_rules | `(tactic| walk_at "lb") => `(tactic| simp (config := { maxSteps := 400000 }) only [lcBody, wipeD, back, Option.getD_some, wSeq, wIfS, wAnd, wOr, wNot, wRet, wDrop, wNext, wBrk, wCnt, wAndV, wOrV, wNotV, wB, wIf, wCB, wArgs, wVar, wC, wTup, wLst, wOp, wChain, wNeg, wSl, wP, wNoP, wSet, wPar, wAsg, wCall, wCallP, wCallN, wApp, wExt, wMt, gApp, gExt, wSetIx, wSeqI, wRng1, wRng2, wZip, wEnum, wFor, withL, lookL, lookD, with2, frz, frzL, prep, put, notLent, kindO, gTp, gNms, gNm, O.d, itemsOf, leave, endsOf, outsOf, clean, wYes,
    gI, gIC, Dl.gSub, gFdiv, gMod, gPow, gLt, gLe, gGt, gGe, gAdd, gMul, gIsN, gNotN, Dl.isNon, gIx, gSl, gLen, gAbs, gInt1, gMax2, gMin2, gTuple, gList, gIsi, atI_0, atI_1, atI_2, atI_m1,
    List.getElem?_cons_zero, List.getElem?_cons_succ, List.set_cons_zero, List.set_cons_succ, List.cons_append, List.nil_append, List.append_nil, List.replicate, List.length_cons, List.length_nil, List.map_cons, List.map_nil, Nat.reduceAdd, Nat.reduceSub, Nat.add_one_sub_one,
    true_and, and_true, if_true, if_false, Bool.false_eq_true, Bool.not_true, Bool.not_false, reduceIte, ite_true, ite_false])
def w_is_integer : WS := (wRet (wAndV (wCB gIsi [(wVar 0), (wC (.raw (.ty "int")))]) (wNotV (wCB gIsi [(wVar 0), (wC (.raw (.ty "bool")))]))))
def w_is_pair : WS := (wSeq (wIfS (wOr (wNot (wB (wCB gIsi [(wVar 0), (wC (.raw (.ty "tuple")))]))) (wB (wOp gNe (wCB gLen [(wVar 0)]) (wC k_PAIR)))) (wRet (wC (.bl false))) wNext)
  (wRet (wAndV (wCall C_is_integer [(wOp gIx (wVar 0) (wC (.int 0)))]) (wAndV (wCall C_is_integer [(wOp gIx (wVar 0) (wC (.int 1)))]) (wOp gLe (wOp gIx (wVar 0) (wC (.int 0))) (wOp gIx (wVar 0) (wC (.int 1))))))))
def w_is_ranges : WS := (wSeq (wIfS (wOr (wNot (wB (wCB gIsi [(wVar 0), (wC (.raw (.ty "tuple")))]))) (wNot (wB (wCB gAll [(wLc (wSeqI (wVar 0)) (gNm 1) wYes (wCall C_is_pair [(wVar 1)]) [1])])))) (wRet (wC (.bl false))) wNext)
  (wRet (wCB gAll [(wLc (wZip [(wVar 0), (wSl (wVar 0) (wP (wC (.int 1))) wNoP)]) (gTp [2, 3]) wYes (wOp gLt (wOp gAdd (wOp gIx (wVar 2) (wC (.int 1))) (wC (.int 1))) (wOp gIx (wVar 3) (wC (.int 0)))) [2, 3])])))
theorem ok_is_integer (args : List Dl.Slot) (Q : Dl.Slot → List Dl.Slot → Prop) (hl : args.length = 1) (h : C_is_integer args Q) : noOwn args ∧ w_is_integer (endsOf args Q) (args ++ List.replicate (1 - 1) .nil) := by
  obtain ⟨d, rfl, ht, hq⟩ := h
  refine ⟨noOwn1 d, ?_⟩
  unfold w_is_integer
  walk_at "dl"
  simp only [isD_int ht, isD_bool ht]
  cases d <;> exact hq
theorem ok_is_pair (args : List Dl.Slot) (Q : Dl.Slot → List Dl.Slot → Prop) (hl : args.length = 1) (h : C_is_pair args Q) : noOwn args ∧ w_is_pair (endsOf args Q) (args ++ List.replicate (1 - 1) .nil) := by
  obtain ⟨d, rfl, ht, hxy, hq⟩ := h
  refine ⟨noOwn1 d, ?_⟩
  unfold w_is_pair
  walk_at "dl"
  simp only [isD_tuple ht]
  cases d with
  | tup ds =>
    simp only [isTupD]
    walk_at "dl"
    rw [gNe_int]
    match ds, hxy, hq with
    | [], _, hq => exact hq
    | [x], _, hq =>
      have e1 : isPairD (.tup [x]) = false := by cases x <;> rfl
      rw [e1] at hq
      exact hq
    | x :: y :: z :: r, _, hq =>
      have e : decide ((((x :: y :: z :: r).length : Nat) : Int) = 2) = false := decide_eq_false (by simp only [List.length_cons]; omega)
      have e1 : isPairD (.tup (x :: y :: z :: r)) = false := by cases x <;> first | rfl | (cases y <;> rfl)
      rw [e]
      rw [e1] at hq
      exact hq
    | [x, y], hxy, hq =>
      obtain ⟨tx, ty⟩ := hxy x y rfl
      have e : decide ((([x, y].length : Nat) : Int) = 2) = true := decide_eq_true rfl
      rw [e]
      walk_at "dl"
      refine ⟨x, rfl, tx, ?_⟩
      cases x with
      | int a =>
        walk_at "dl"
        refine ⟨y, rfl, ty, ?_⟩
        cases y with
        | int b => exact hq
        | _ => exact hq
      | _ => exact hq
  | _ => exact hq
theorem lcl_all {g : WG} {t : WT} {e : WE} {vs : List Nat} {Q : List D → List Dl.Slot → Prop} {ρ : List Dl.Slot} {f : D → D} {P : D → Prop} (n : Nat) (hn : n ≤ 1000000)
    (step : ∀ d, P d → ∀ (acc : List D) (k1 : D → List Dl.Slot → Prop) (k0 : List Dl.Slot → Prop), k1 (f d) ρ → g d (wipeD ρ vs) (lcBody t e ρ vs k1 k0)) :
    ∀ (ds acc : List D), (∀ d ∈ ds, P d) → ds.length + acc.length ≤ n → Q (acc ++ ds.map f) ρ → lcl g t e vs Q ds ρ acc
  | [], acc, _, _, hq => by rw [List.map_nil, List.append_nil] at hq; exact hq
  | d :: ds, acc, hP, hl, hq => by
    rw [List.length_cons] at hl
    refine step d (hP d (by simp)) acc _ _ ⟨big' _ (by omega), lcl_all n hn step ds _ (fun x hx => hP x (List.mem_cons_of_mem _ hx)) (by rw [List.length_append, List.length_singleton]; omega) ?_⟩
    rw [List.append_assoc]
    exact hq
theorem boolsOf_isPair : ∀ ds : List D, boolsOf (ds.map fun d => D.bl (isPairD d)) = some (ds.map isPairD) := fun ds => boolsOf_map isPairD ds
theorem pairs_of_all : ∀ {ds : List D}, (∀ x ∈ ds, isPairD x = true) → ∃ ps : RS, ds = ps.map pairD ∧ Ok ps
  | [], _ => ⟨[], rfl, fun _ h => (nomatch h)⟩
  | d :: ds, h => by
    obtain ⟨ps, rfl, hok⟩ := pairs_of_all fun x hx => h x (List.mem_cons_of_mem _ hx)
    have hd := h d (by simp)
    match d, hd with
    | .tup [.int a, .int b], hd =>
      exact ⟨(a, b) :: ps, rfl, fun p hp => (List.mem_cons.mp hp).elim (fun e => by rw [e]; exact of_decide_eq_true hd) (hok p)⟩
theorem all_pairs {ps : RS} (h : Ok ps) : ∀ x ∈ ps.map pairD, isPairD x = true := fun x hx => by
  obtain ⟨p, hp, rfl⟩ := List.mem_map.mp hx
  exact decide_eq_true (h p hp)
theorem cut1 (xs : List D) : cutD xs (some 1) none = xs.drop 1 := by
  unfold cutD
  rw [show HT.sIx xs.length 0 (some 1) = min 1 xs.length from HT.sIx_nat xs.length 0 1, HT.sIx_none]
  cases xs with
  | nil => rfl
  | cons x r =>
    have e : min 1 (x :: r).length = 1 := by rw [List.length_cons]; omega
    rw [e]
    simp
def zz (ps : RS) : List ((Int × Int) × (Int × Int)) := ps.zip (ps.drop 1)
theorem zip_pairs (ps : RS) : zipD (ps.map pairD) ((ps.map pairD).drop 1) = (zz ps).map fun q => .tup [pairD q.1, pairD q.2] := by
  unfold zipD zz
  rw [← List.map_drop, List.zip_map, List.map_map]
  rfl
theorem apart_zz : ∀ ps : RS, apart (ps.map pairD) = ((zz ps).map fun q => decide (q.1.2 + 1 < q.2.1)).all id
  | [] => rfl
  | [p] => rfl
  | p :: q :: ps => by
    have ih := apart_zz (q :: ps)
    show (decide (p.2 + 1 < q.1) && apart ((q :: ps).map pairD)) = _
    rw [ih]
    rfl
def fzz : D → D
  | .tup [.tup [.int _, .int b], .tup [.int c, .int _]] => .bl (decide (b + 1 < c))
  | _ => .non
theorem canon_of_apart : ∀ {ps : RS}, Ok ps → apart (ps.map pairD) = true → Canon ps
  | [], _, _ => Canon.nil
  | [p], h, _ => ⟨h, by simp⟩
  | p :: q :: ps, h, ha => by
    have ha' : (decide (p.2 + 1 < q.1) && apart ((q :: ps).map pairD)) = true := ha
    rw [Bool.and_eq_true, decide_eq_true_eq] at ha'
    have c := canon_of_apart (ps := q :: ps) (fun x hx => h x (List.mem_cons_of_mem _ hx)) ha'.2
    refine ⟨h, List.pairwise_cons.mpr ⟨fun r hr => ?_, c.gap⟩⟩
    rcases List.mem_cons.mp hr with rfl | hr
    · exact ha'.1
    · have h1 := (List.pairwise_cons.mp c.gap).1 r hr
      have h2 := c.head
      unfold Gap at h1 ⊢
      omega
theorem apart_of_canon : ∀ {ps : RS}, Canon ps → apart (ps.map pairD) = true
  | [], _ => rfl
  | [p], _ => rfl
  | p :: q :: ps, h => by
    show (decide (p.2 + 1 < q.1) && apart ((q :: ps).map pairD)) = true
    have := (List.pairwise_cons.mp h.gap).1 q (by simp)
    rw [apart_of_canon h.tail, decide_eq_true (show p.2 + 1 < q.1 from this)]
    rfl
theorem isRs_canon {ps : RS} (h : Canon ps) : isRsD (rsD ps) = true := by
  show ((ps.map pairD).all isPairD && apart (ps.map pairD)) = true
  rw [apart_of_canon h, Bool.and_true, List.all_eq_true]
  exact all_pairs h.ok
theorem ok_is_ranges (args : List Dl.Slot) (Q : Dl.Slot → List Dl.Slot → Prop) (hl : args.length = 1) (h : C_is_ranges args Q) : noOwn args ∧ w_is_ranges (endsOf args Q) (args ++ List.replicate (4 - 1) .nil) := by
  obtain ⟨d, rfl, ht, hds, hq⟩ := h
  refine ⟨noOwn1 d, ?_⟩
  unfold w_is_ranges
  walk_at "dl"
  simp only [isD_tuple ht]
  cases d with
  | tup ds =>
    obtain ⟨hz, hty⟩ := hds ds rfl
    simp only [isTupD]
    walk_at "dl"
    refine ⟨⟨trivial, trivial⟩, lcl_all (f := fun d => .bl (isPairD d)) (P := fun d => d ∈ ds) 1000000 (Nat.le_refl _) (fun x hx acc k1 k0 hk => ?_) ds [] (fun x hx => hx) (by simpa using hz) ?_⟩
    · refine ⟨trivial, ?_⟩
      walk_at "lb"
      exact ⟨x, rfl, (hty x hx).1, (hty x hx).2, hk⟩
    · rw [List.nil_append]
      walk_at "dl"
      simp only [gAll, boolsOf_isPair]
      cases hall : (ds.map isPairD).all id with
      | false =>
        have e : isRsD (.tup ds) = false := by
          have : ds.all isPairD = false := by simpa using hall
          show (ds.all isPairD && apart ds) = false
          rw [this]; rfl
        rw [e] at hq
        exact hq
      | true =>
        have hall' : ∀ x ∈ ds, isPairD x = true := by simpa using hall
        unfold wLc
        walk_at "dl"
        obtain ⟨ps, rfl, hok⟩ := pairs_of_all hall'
        rw [cut1, zip_pairs]
        refine lcl_all (f := fzz) (P := fun d => ∃ p q, d = .tup [pairD p, pairD q]) 1000000 (Nat.le_refl _) (fun x hx acc k1 k0 hk => ?_) _ [] (fun x hx => ?_) ?_ ?_
        · obtain ⟨p, q, rfl⟩ := hx
          unfold pairD
          walk_at "lb"
          exact hk
        · obtain ⟨q, _, rfl⟩ := List.mem_map.mp hx
          exact ⟨_, _, rfl⟩
        · unfold zz
          simp only [List.length_map, List.length_zip, List.length_nil] at hz ⊢
          omega
        · rw [List.nil_append, List.map_map]
          have e : boolsOf ((zz ps).map (fzz ∘ fun q => .tup [pairD q.1, pairD q.2])) = some ((zz ps).map fun q => decide (q.1.2 + 1 < q.2.1)) := boolsOf_map (fun q : (Int × Int) × (Int × Int) => decide (q.1.2 + 1 < q.2.1)) (zz ps)
          rw [e]
          have e2 : isRsD (.tup (ps.map pairD)) = ((zz ps).map fun q => decide (q.1.2 + 1 < q.2.1)).all id := by
            show ((ps.map pairD).all isPairD && apart (ps.map pairD)) = _
            rw [apart_zz, List.all_eq_true.mpr hall', Bool.true_and]
          rw [e2] at hq
          exact hq
  | _ => exact hq
end Lw
namespace Lw
open PySem L2 Dl Rs
local macro_rules | `(tactic| walk_at "dl") => `(tactic| simp (config := { maxSteps := 400000 }) only [wSeq, wIfS, wAnd, wOr, wNot, wRet, wDrop, wNext, wBrk, wCnt, wAndV, wOrV, wNotV, wB, wIf, wCB, wArgs, wVar, wC, wTup, wLst, wOp, wChain, wNeg, wSl, wP, wNoP, wSet, wPar, wAsg, wCall, wCallP, wCallN, wApp, wExt, wMt, gApp, gExt, wSetIx, wSeqI, wRng1, wRng2, wZip, wEnum, wFor, withL, lookL, lookD, with2, frz, frzL, prep, put, notLent, kindO, gTp, gNms, gNm, O.d, itemsOf, leave, endsOf, outsOf, clean, wYes,
    gI, gIC, Dl.gSub, gFdiv, gMod, gPow, gLt, gLe, gGt, gGe, gAdd, gMul, gIsN, gNotN, Dl.isNon, gIx, gSl, gLen, gAbs, gInt1, gMax2, gMin2, gTuple, gList, gIsi, atI_0, atI_1, atI_2, atI_m1,
    List.getElem?_cons_zero, List.getElem?_cons_succ, List.set_cons_zero, List.set_cons_succ, List.cons_append, List.nil_append, List.append_nil, List.replicate, List.length_cons, List.length_nil, List.map_cons, List.map_nil, Nat.reduceAdd, Nat.reduceSub, Nat.add_one_sub_one,
    true_and, and_true, if_true, if_false, Bool.false_eq_true, Bool.not_true, Bool.not_false, reduceIte, ite_true, ite_false])
def wr_united_1 : WS := (wPar 2 3 (wVar 4) (wVar 5))
def wb_united_2 : WS := (wIfS (wAnd (wB (wOp gNotN (wVar 2) (wC .non))) (wB (wOp gLe (wVar 4) (wOp gAdd (wVar 3) (wC (.int 1)))))) (wSet 3 (wCB gMax2 [(wVar 3), (wVar 5)])) (wSeq (wIfS (wB (wOp gNotN (wVar 2) (wC .non))) (wDrop (wApp 1 (wTup [(wVar 2), (wVar 3)]))) wNext)
  wr_united_1))
def wr_united_3 : WS := (wRet (wCB gTuple [(wVar 1)]))
def wr_united_4 : WS := (wSeq (wIfS (wB (wOp gNotN (wVar 2) (wC .non))) (wDrop (wApp 1 (wTup [(wVar 2), (wVar 3)]))) wNext)
  wr_united_3)
def w_united : WS := (wSeq (wSet 1 (wLst []))
  (wSeq (wAsg (wTup [(wC .non), (wC .non)]) (gTp [2, 3]))
  (wSeq (wFor (wSeqI (wCB gSortP [(wVar 0)])) (gTp [4, 5]) wb_united_2)
  wr_united_4)))
theorem loop_cons {g : WG} {w : WS} {KD : DEnds} {d : D} {ds : List D} {ρ : List Dl.Slot} : loop g w KD (d :: ds) ρ = g d ρ fun ρ1 => w { nx := loop g w KD ds, ct := loop g w KD ds, bk := KD.nx, rt := KD.rt } ρ1 := rfl
theorem loop_nil {g : WG} {w : WS} {KD : DEnds} {ρ : List Dl.Slot} : loop g w KD [] ρ = KD.nx ρ := rfl
theorem pairD_eq {a b : Int} : pairD (a, b) = .tup [.int a, .int b] := rfl
theorem lexLe_ge {p q : Int × Int} (h : lexLe p q) : p.1 ≤ q.1 := by unfold lexLe at h; omega
theorem pour_in {fs : RS} {s e l h : Int} (c : Canon (fs ++ [(s, e)])) (hl : s ≤ l) (hle : l ≤ e + 1) (ho : l ≤ h) : Canon (fs ++ [(s, max e h)]) ∧ ∀ x, In (fs ++ [(s, max e h)]) x ↔ In (fs ++ [(s, e)]) x ∨ (l ≤ x ∧ x ≤ h) := by
  have c0 : Canon fs := ⟨fun p hp => c.ok p (List.mem_append_left _ hp), (List.pairwise_append.mp c.gap).1⟩
  have hse := c.ok (s, e) (by simp)
  refine ⟨canon_snoc c0 (by show s ≤ max e h; omega) fun q hq => (List.pairwise_append.mp c.gap).2.2 q hq (s, e) (by simp), fun x => ?_⟩
  rw [in_append, in_append, in_cons, in_cons]
  have hse : s ≤ e := hse
  constructor
  · rintro (z | ⟨z1, z2⟩ | z)
    · exact .inl (.inl z)
    · have z1 : s ≤ x := z1
      have z2 : x ≤ max e h := z2
      by_cases hx : x ≤ e
      · exact .inl (.inr (.inl ⟨z1, hx⟩))
      · exact .inr ⟨by omega, by omega⟩
    · exact absurd z In.nil
  · rintro ((z | ⟨z1, z2⟩ | z) | ⟨z1, z2⟩)
    · exact .inl z
    · have z1 : s ≤ x := z1
      have z2 : x ≤ e := z2
      exact .inr (.inl ⟨z1, show x ≤ max e h by omega⟩)
    · exact absurd z In.nil
    · exact .inr (.inl ⟨show s ≤ x by omega, show x ≤ max e h by omega⟩)
theorem loop_united (KD : DEnds) (a0 : Dl.Slot) : ∀ (qs fs : RS) (s e : Int) (l h : D), qs.Pairwise lexLe → (∀ q ∈ qs, s ≤ q.1) → Ok qs → Canon (fs ++ [(s, e)]) → fs.length + qs.length < 16000000 →
    (∀ (fs' : RS) (s' e' : Int) (l' h' : D), Canon (fs' ++ [(s', e')]) → (∀ x, In (fs' ++ [(s', e')]) x ↔ In (fs ++ [(s, e)]) x ∨ In qs x) → fs'.length ≤ fs.length + qs.length →
      KD.nx [a0, .own false (.lst (fs'.map pairD)), .fro (.int s'), .fro (.int e'), .fro l', .fro h']) →
    loop (gTp [4, 5]) wb_united_2 KD (qs.map pairD) [a0, .own false (.lst (fs.map pairD)), .fro (.int s), .fro (.int e), .fro l, .fro h]
  | [], fs, s, e, l, h, _, _, _, hc, _, hk => hk fs s e l h hc (fun x => ⟨.inl, fun z => z.elim id fun z => absurd z In.nil⟩) (by simp)
  | (ql, qh) :: qs, fs, s, e, l, h, hs, hge, ho, hc, hn, hk => by
    have hq : s ≤ ql := hge (ql, qh) (by simp)
    have hqo : ql ≤ qh := ho (ql, qh) (by simp)
    have hs' := List.pairwise_cons.mp hs
    have ho' : Ok qs := fun p hp => ho p (List.mem_cons_of_mem _ hp)
    rw [List.length_cons] at hn
    rw [List.map_cons, loop_cons, pairD_eq]
    generalize hL : loop (gTp [4, 5]) wb_united_2 KD (qs.map pairD) = L
    unfold wb_united_2 wr_united_1
    walk_at "dl"
    subst hL
    by_cases hle : ql ≤ e + 1
    · rw [if_pos (decide_eq_true hle)]
      obtain ⟨c1, i1⟩ := pour_in hc hq hle hqo
      refine loop_united KD a0 qs fs s (max e qh) _ _ hs'.2 (fun q hq' => hge q (List.mem_cons_of_mem _ hq')) ho' c1 (by omega) fun fs' s' e' l' h' c2 i2 n2 => hk fs' s' e' l' h' c2 (fun x => ?_) (by rw [List.length_cons]; omega)
      rw [i2 x, i1 x, in_cons]
      exact ⟨fun z => z.elim (fun z => z.elim .inl fun z => .inr (.inl z)) fun z => .inr (.inr z), fun z => z.elim (fun z => .inl (.inl z)) fun z => z.elim (fun z => .inl (.inr z)) .inr⟩
    · rw [if_neg (by rw [decide_eq_false hle]; exact Bool.false_ne_true)]
      refine ⟨⟨_, _, rfl, rfl⟩, by decide, by rw [List.length_map]; exact big' _ (by omega), ?_⟩
      have hse : s ≤ e := hc.ok (s, e) (by simp)
      have c1 : Canon ((fs ++ [(s, e)]) ++ [(ql, qh)]) := canon_snoc hc hqo fun r hr => by
        rcases List.mem_append.mp hr with hr | hr
        · have := (List.pairwise_append.mp hc.gap).2.2 r hr (s, e) (by simp)
          unfold Gap at this ⊢
          have this : r.2 + 1 < s := this
          show r.2 + 1 < ql
          omega
        · rw [List.mem_singleton.mp hr]
          show e + 1 < ql
          omega
      have em : fs.map pairD ++ [D.tup [D.int s, D.int e]] = (fs ++ [(s, e)]).map pairD := by rw [List.map_append]; rfl
      rw [em]
      refine loop_united KD a0 qs (fs ++ [(s, e)]) ql qh _ _ hs'.2 (fun q hq' => lexLe_ge (hs'.1 q hq')) ho' c1 (by rw [List.length_append, List.length_singleton]; omega) fun fs' s' e' l' h' c2 i2 n2 => hk fs' s' e' l' h' c2 (fun x => ?_) (by rw [List.length_append, List.length_singleton] at n2; rw [List.length_cons]; omega)
      rw [i2 x, in_append, in_cons, in_cons]
      exact ⟨fun z => z.elim (fun z => z.elim .inl fun z => .inr (.inl (z.elim id fun z => absurd z In.nil))) fun z => .inr (.inr z), fun z => z.elim (fun z => .inl (.inl z)) fun z => z.elim (fun z => .inl (.inr (.inl z))) .inr⟩
theorem ok_united (args : List Dl.Slot) (Q : Dl.Slot → List Dl.Slot → Prop) (hl : args.length = 1) (h : C_united args Q) : noOwn args ∧ w_united (endsOf args Q) (args ++ List.replicate (6 - 1) .nil) := by
  obtain ⟨ps, ha, hok, hz, hq⟩ := h
  obtain ⟨d, rfl, hd⟩ : ∃ d, args = [.fro d] ∧ ∀ k, gSortP [d] k = ∀ qs : List (Int × Int), qs.Perm ps → qs.Pairwise lexLe → k (.own false (.lst (qs.map pairD))) := by
    rcases ha with rfl | rfl
    · exact ⟨_, rfl, fun k => by simp only [gSortP, pairsOf_map]⟩
    · exact ⟨_, rfl, fun k => by simp only [gSortP, pairsOf_map]⟩
  refine ⟨noOwn1 d, ?_⟩
  unfold w_united
  walk_at "dl"
  refine ⟨Nat.zero_le _, by decide, ?_⟩
  rw [hd]
  intro qs hp hsrt
  have hok' : Ok qs := fun p h => hok p (hp.mem_iff.mp h)
  have hin : ∀ x, In qs x ↔ In ps x := fun x => ⟨fun ⟨p, h, z⟩ => ⟨p, hp.mem_iff.mp h, z⟩, fun ⟨p, h, z⟩ => ⟨p, hp.mem_iff.mpr h, z⟩⟩
  have hlen := hp.length_eq
  match qs, hsrt, hok', hin, hlen with
  | [], _, _, hin, hlen =>
    rw [List.map_nil]
    walk_at "dl"
    rw [loop_nil]
    unfold wr_united_4 wr_united_3
    walk_at "dl"
    exact hq [] Canon.nil (Nat.zero_le _) fun x => hin x
  | (ql, qh) :: qs, hsrt, hok', hin, hlen =>
    have hqo : ql ≤ qh := hok' (ql, qh) (by simp)
    have hs' := List.pairwise_cons.mp hsrt
    rw [List.length_cons] at hlen
    rw [List.map_cons, pairD_eq]
    walk_at "dl"
    rw [loop_cons]
    generalize hL : loop (gTp [4, 5]) wb_united_2 _ (qs.map pairD) = L
    unfold wb_united_2 wr_united_1
    walk_at "dl"
    subst hL
    refine loop_united _ _ qs [] ql qh _ _ hs'.2 (fun q hq' => lexLe_ge (hs'.1 q hq')) (fun p hp => hok' p (List.mem_cons_of_mem _ hp)) ⟨fun p hp => by rw [List.mem_singleton.mp hp]; exact hqo, by simp⟩ (by simp only [List.length_nil]; omega) fun fs s e l h c i n => ?_
    dsimp only
    unfold wr_united_4 wr_united_3
    walk_at "dl"
    rw [List.length_nil] at n
    refine ⟨⟨_, _, rfl, rfl⟩, by decide, by rw [List.length_map]; exact big' _ (by omega), ?_⟩
    have em : fs.map pairD ++ [D.tup [D.int s, D.int e]] = (fs ++ [(s, e)]).map pairD := by rw [List.map_append]; rfl
    rw [em]
    refine hq (fs ++ [(s, e)]) c (by rw [List.length_append, List.length_singleton]; omega) fun x => ?_
    rw [i x, ← hin x, List.nil_append, in_cons, in_cons]
    exact ⟨fun z => z.elim (fun z => .inl (z.elim id fun z => absurd z In.nil)) .inr, fun z => z.elim (fun z => .inl (.inl z)) .inr⟩
end Lw
namespace Lw
open PySem L2 Dl Rs
local macro_rules | `(tactic| walk_at "dl") => `(tactic| simp (config := { maxSteps := 400000 }) only [wSeq, wIfS, wAnd, wOr, wNot, wRet, wDrop, wNext, wBrk, wCnt, wAndV, wOrV, wNotV, wB, wIf, wCB, wArgs, wVar, wC, wTup, wLst, wOp, wChain, wNeg, wSl, wP, wNoP, wSet, wPar, wAsg, wCall, wCallP, wCallN, wApp, wExt, wMt, gApp, gExt, wSetIx, wSeqI, wRng1, wRng2, wZip, wEnum, wFor, withL, lookL, lookD, with2, frz, frzL, prep, put, notLent, kindO, gTp, gNms, gNm, O.d, itemsOf, leave, endsOf, outsOf, clean, wYes,
    gI, gIC, Dl.gSub, gFdiv, gMod, gPow, gLt, gLe, gGt, gGe, gAdd, gMul, gIsN, gNotN, Dl.isNon, gIx, gSl, gLen, gAbs, gInt1, gMax2, gMin2, gTuple, gList, gIsi, atI_0, atI_1, atI_2, atI_m1,
    List.getElem?_cons_zero, List.getElem?_cons_succ, List.set_cons_zero, List.set_cons_succ, List.cons_append, List.nil_append, List.append_nil, List.replicate, List.length_cons, List.length_nil, List.map_cons, List.map_nil, Nat.reduceAdd, Nat.reduceSub, Nat.add_one_sub_one,
    true_and, and_true, if_true, if_false, Bool.false_eq_true, Bool.not_true, Bool.not_false, reduceIte, ite_true, ite_false])
local macro_rules | `(tactic| walk_at "lb") => `(tactic| simp (config := { maxSteps := 400000 }) only [lcBody, wipeD, back, Option.getD_some, wSeq, wIfS, wAnd, wOr, wNot, wRet, wDrop, wNext, wBrk, wCnt, wAndV, wOrV, wNotV, wB, wIf, wCB, wArgs, wVar, wC, wTup, wLst, wOp, wChain, wNeg, wSl, wP, wNoP, wSet, wPar, wAsg, wCall, wCallP, wCallN, wApp, wExt, wMt, gApp, gExt, wSetIx, wSeqI, wRng1, wRng2, wZip, wEnum, wFor, withL, lookL, lookD, with2, frz, frzL, prep, put, notLent, kindO, gTp, gNms, gNm, O.d, itemsOf, leave, endsOf, outsOf, clean, wYes,
    gI, gIC, Dl.gSub, gFdiv, gMod, gPow, gLt, gLe, gGt, gGe, gAdd, gMul, gIsN, gNotN, Dl.isNon, gIx, gSl, gLen, gAbs, gInt1, gMax2, gMin2, gTuple, gList, gIsi, atI_0, atI_1, atI_2, atI_m1,
    List.getElem?_cons_zero, List.getElem?_cons_succ, List.set_cons_zero, List.set_cons_succ, List.cons_append, List.nil_append, List.append_nil, List.replicate, List.length_cons, List.length_nil, List.map_cons, List.map_nil, Nat.reduceAdd, Nat.reduceSub, Nat.add_one_sub_one,
    true_and, and_true, if_true, if_false, Bool.false_eq_true, Bool.not_true, Bool.not_false, reduceIte, ite_true, ite_false])
def wr_both_1 : WS := (wIfS (wB (wOp gLt (wOp gIx (wOp gIx (wVar 0) (wVar 3)) (wC (.int 1))) (wOp gIx (wOp gIx (wVar 1) (wVar 4)) (wC (.int 1))))) (wSet 3 (wOp gAdd (wVar 3) (wC (.int 1)))) (wSet 4 (wOp gAdd (wVar 4) (wC (.int 1)))))
def wb_both_2 : WS := (wSeq (wPar 5 6 (wCB gMax2 [(wOp gIx (wOp gIx (wVar 0) (wVar 3)) (wC (.int 0))), (wOp gIx (wOp gIx (wVar 1) (wVar 4)) (wC (.int 0)))]) (wCB gMin2 [(wOp gIx (wOp gIx (wVar 0) (wVar 3)) (wC (.int 1))), (wOp gIx (wOp gIx (wVar 1) (wVar 4)) (wC (.int 1)))]))
  (wSeq (wIfS (wB (wOp gLe (wVar 5) (wVar 6))) (wDrop (wApp 2 (wTup [(wVar 5), (wVar 6)]))) wNext)
  wr_both_1))
def wr_both_3 : WS := (wRet (wCB gTuple [(wVar 2)]))
def w_both : WS := (wSeq (wSet 2 (wLst []))
  (wSeq (wAsg (wTup [(wC (.int 0)), (wC (.int 0))]) (gTp [3, 4]))
  (wSeq (wWhile (wAnd (wB (wOp gLt (wVar 3) (wCB gLen [(wVar 0)]))) (wB (wOp gLt (wVar 4) (wCB gLen [(wVar 1)])))) wb_both_2)
  wr_both_3)))
def w_either : WS := (wRet (wCall C_united [(wOp gAdd (wVar 0) (wVar 1))]))
def wr_gaps_1 : WS := (wSet 4 (wCB gMax2 [(wVar 4), (wOp gAdd (wVar 6) (wC (.int 1)))]))
def wb_gaps_2 : WS := (wSeq (wIfS (wB (wOp gLt (wVar 4) (wVar 5))) (wDrop (wApp 3 (wTup [(wVar 4), (wOp gSub (wVar 5) (wC (.int 1)))]))) wNext)
  wr_gaps_1)
def wr_gaps_3 : WS := (wSeq (wDrop (wApp 3 (wTup [(wVar 4), (wVar 2)])))
  (wRet (wCall C_both [(wCall C_united [(wLc (wSeqI (wVar 3)) (gNm 7) (wB (wOp gLe (wOp gIx (wVar 7) (wC (.int 0))) (wOp gIx (wVar 7) (wC (.int 1))))) (wVar 7) [7])]), (wTup [(wTup [(wVar 1), (wVar 2)])])])))
def w_gaps : WS := (wSeq (wSet 3 (wLst []))
  (wSeq (wSet 4 (wVar 1))
  (wSeq (wFor (wSeqI (wVar 0)) (gTp [5, 6]) wb_gaps_2)
  wr_gaps_3)))
def w_without : WS := (wSeq (wIfS (wB (wOp gEq (wVar 0) (wTup []))) (wRet (wTup [])) wNext)
  (wRet (wCall C_both [(wVar 0), (wCall C_gaps [(wVar 1), (wOp gIx (wOp gIx (wVar 0) (wC (.int 0))) (wC (.int 0))), (wOp gIx (wOp gIx (wVar 0) (wNeg (wC (.int 1)))) (wC (.int 1)))])])))
theorem atI_pair {a : RS} {i : Nat} (h : i < a.length) : atI (a.map pairD) (i : Int) = some (.tup [.int a[i].1, .int a[i].2]) := by
  refine atI_nat (j := i) ?_
  rw [List.getElem?_map, List.getElem?_eq_getElem h]
  rfl
end Lw
namespace Lw
open PySem L2 Dl Rs
local macro_rules | `(tactic| walk_at "dl") => `(tactic| simp (config := { maxSteps := 400000 }) only [wSeq, wIfS, wAnd, wOr, wNot, wRet, wDrop, wNext, wBrk, wCnt, wAndV, wOrV, wNotV, wB, wIf, wCB, wArgs, wVar, wC, wTup, wLst, wOp, wChain, wNeg, wSl, wP, wNoP, wSet, wPar, wAsg, wCall, wCallP, wCallN, wApp, wExt, wMt, gApp, gExt, wSetIx, wSeqI, wRng1, wRng2, wZip, wEnum, wFor, withL, lookL, lookD, with2, frz, frzL, prep, put, notLent, kindO, gTp, gNms, gNm, O.d, itemsOf, leave, endsOf, outsOf, clean, wYes,
    gI, gIC, Dl.gSub, gFdiv, gMod, gPow, gLt, gLe, gGt, gGe, gAdd, gMul, gIsN, gNotN, Dl.isNon, gIx, gSl, gLen, gAbs, gInt1, gMax2, gMin2, gTuple, gList, gIsi, atI_0, atI_1, atI_2, atI_m1,
    List.getElem?_cons_zero, List.getElem?_cons_succ, List.set_cons_zero, List.set_cons_succ, List.cons_append, List.nil_append, List.append_nil, List.replicate, List.length_cons, List.length_nil, List.map_cons, List.map_nil, Nat.reduceAdd, Nat.reduceSub, Nat.add_one_sub_one,
    true_and, and_true, if_true, if_false, Bool.false_eq_true, Bool.not_true, Bool.not_false, reduceIte, ite_true, ite_false])
local macro_rules | `(tactic| walk_at "hs") => `(tactic| simp (config := { maxSteps := 400000 }) only [wSeq, wIfS, wAnd, wOr, wNot, wRet, wDrop, wNext, wBrk, wCnt, wAndV, wOrV, wNotV, wB, wIf, wCB, wArgs, wVar, wC, wTup, wLst, wOp, wChain, wNeg, wSl, wP, wNoP, wSet, wPar, wAsg, wCall, wCallP, wCallN, wApp, wExt, wMt, gApp, gExt, wSetIx, wSeqI, wRng1, wRng2, wZip, wEnum, wFor, withL, lookL, lookD, with2, frz, frzL, prep, put, notLent, kindO, gTp, gNms, gNm, O.d, itemsOf, leave, endsOf, outsOf, clean, wYes,
    gI, gIC, Dl.gSub, gFdiv, gMod, gPow, gLt, gLe, gGt, gGe, gAdd, gMul, gIsN, gNotN, Dl.isNon, gIx, gSl, gLen, gAbs, gInt1, gMax2, gMin2, gTuple, gList, gIsi, atI_0, atI_1, atI_2, atI_m1,
    List.getElem?_cons_zero, List.getElem?_cons_succ, List.set_cons_zero, List.set_cons_succ, List.cons_append, List.nil_append, List.append_nil, List.replicate, List.length_cons, List.length_nil, List.map_cons, List.map_nil, Nat.reduceAdd, Nat.reduceSub, Nat.add_one_sub_one,
    true_and, and_true, if_true, if_false, Bool.false_eq_true, Bool.not_true, Bool.not_false, reduceIte, ite_true, ite_false, *])
structure BI (T : Int → Prop) (A B fs : RS) : Prop where
  cA : Canon A
  cB : Canon B
  cf : Canon fs
  sep : ∀ p ∈ fs, ∀ x, In A x → In B x → p.2 + 1 < x
  cov : ∀ x, T x ↔ In fs x ∨ (In A x ∧ In B x)
theorem BI.swap {T : Int → Prop} {A B fs : RS} (h : BI T A B fs) : BI T B A fs := ⟨h.cB, h.cA, h.cf, fun p hp x a b => h.sep p hp x b a, fun x => by rw [h.cov x, And.comm (a := In A x)]⟩
theorem BI.step {T : Int → Prop} {A B fs : RS} {p q : Int × Int} (h : BI T (p :: A) (q :: B) fs) (hpq : p.2 ≤ q.2) : BI T A (q :: B) (if max p.1 q.1 ≤ p.2 then fs ++ [(max p.1 q.1, p.2)] else fs) := by
  have hp := h.cA.head
  have hq := h.cB.head
  have key : ∀ x, (In (p :: A) x ∧ In (q :: B) x) ↔ (max p.1 q.1 ≤ x ∧ x ≤ p.2) ∨ (In A x ∧ In (q :: B) x) := fun x => by
    rw [in_cons (p := p)]
    constructor
    · rintro ⟨a | a, b⟩
      · refine .inl ⟨?_, a.2⟩
        rcases in_cons.1 b with b | b
        · omega
        · have := h.cB.above b; omega
      · exact .inr ⟨a, b⟩
    · rintro (a | ⟨a, b⟩)
      · exact ⟨.inl ⟨by omega, a.2⟩, in_cons.2 (.inl ⟨by omega, by omega⟩)⟩
      · exact ⟨.inr a, b⟩
  by_cases hl : max p.1 q.1 ≤ p.2
  · rw [if_pos hl]
    refine ⟨h.cA.tail, h.cB, canon_snoc h.cf hl fun r hr => ?_, fun r hr x a b => ?_, fun x => ?_⟩
    · obtain ⟨a, b⟩ := (key (max p.1 q.1)).2 (.inl ⟨Int.le_refl _, hl⟩)
      exact h.sep r hr _ a b
    · rcases List.mem_append.mp hr with hr | hr
      · exact h.sep r hr x (in_cons.2 (.inr a)) b
      · rw [List.mem_singleton.mp hr]
        exact h.cA.above a
    · rw [h.cov x, key x, in_append, in_cons (p := (max p.1 q.1, p.2))]
      constructor
      · rintro (a | a | a)
        · exact .inl (.inl a)
        · exact .inl (.inr (.inl a))
        · exact .inr a
      · rintro ((a | a | a) | a)
        · exact .inl a
        · exact .inr (.inl a)
        · exact absurd a In.nil
        · exact .inr (.inr a)
  · rw [if_neg hl]
    refine ⟨h.cA.tail, h.cB, h.cf, fun r hr x a b => h.sep r hr x (in_cons.2 (.inr a)) b, fun x => ?_⟩
    rw [h.cov x, key x]
    constructor
    · rintro (a | a | a)
      · exact .inl a
      · omega
      · exact .inr a
    · rintro (a | a)
      · exact .inl a
      · exact .inr (.inr a)
theorem drop_at {a : RS} {i : Nat} (h : i < a.length) : a.drop i = a[i] :: a.drop (i + 1) := List.drop_eq_getElem_cons h
def nilOr (s : Dl.Slot) : Prop := s = .nil ∨ ∃ d, s = .fro d
theorem notLent_nilOr {ρ : List Dl.Slot} {i : Nat} {s : Dl.Slot} (e : ρ[i]? = some s) (h : nilOr s) : notLent ρ i := by
  unfold notLent
  rw [e]
  rcases h with rfl | ⟨d, rfl⟩ <;> trivial
def bothI (a b : RS) (m : Nat) (ρ : List Dl.Slot) : Prop := ∃ (i j : Nat) (fs : RS) (x5 x6 : Dl.Slot), m = (a.length - i) + (b.length - j) ∧ i ≤ a.length ∧ j ≤ b.length ∧ BI (fun x => In a x ∧ In b x) (a.drop i) (b.drop j) fs ∧ fs.length ≤ i + j ∧ nilOr x5 ∧ nilOr x6 ∧
  ρ = [.fro (rsD a), .fro (rsD b), .own false (.lst (fs.map pairD)), .fro (.int i), .fro (.int j), x5, x6]
theorem body_both {A B : List D} {i j p1 p2 q1 q2 : Int} {fs : List D} {x5 x6 : Dl.Slot} {KD : DEnds} (hp : atI A i = some (.tup [.int p1, .int p2])) (hq : atI B j = some (.tup [.int q1, .int q2])) (n5 : nilOr x5) (n6 : nilOr x6) (hf : fs.length < 16000000)
    (h : KD.nx [.fro (.tup A), .fro (.tup B), .own false (.lst (if max p1 q1 ≤ min p2 q2 then fs ++ [.tup [.int (max p1 q1), .int (min p2 q2)]] else fs)), .fro (.int (if p2 < q2 then i + 1 else i)), .fro (.int (if p2 < q2 then j else j + 1)), .fro (.int (max p1 q1)), .fro (.int (min p2 q2))]) :
    wb_both_2 KD [.fro (.tup A), .fro (.tup B), .own false (.lst fs), .fro (.int i), .fro (.int j), x5, x6] := by
  obtain ⟨nx, rt, bk, ct⟩ := KD
  have key : ∀ fs', (nx [.fro (.tup A), .fro (.tup B), .own false (.lst fs'), .fro (.int (if p2 < q2 then i + 1 else i)), .fro (.int (if p2 < q2 then j else j + 1)), .fro (.int (max p1 q1)), .fro (.int (min p2 q2))]) → wr_both_1 ⟨nx, rt, bk, ct⟩ [.fro (.tup A), .fro (.tup B), .own false (.lst fs'), .fro (.int i), .fro (.int j), .fro (.int (max p1 q1)), .fro (.int (min p2 q2))] := fun fs' hn => by
    clear h
    unfold wr_both_1
    walk_at "hs"
    by_cases hlt : p2 < q2
    · rw [if_pos hlt, if_pos hlt] at hn
      rw [if_pos (decide_eq_true hlt)]
      exact hn
    · rw [if_neg hlt, if_neg hlt] at hn
      rw [if_neg (by rw [decide_eq_false hlt]; exact Bool.false_ne_true)]
      exact hn
  replace h : nx _ := h
  generalize hW : wr_both_1 = W at key
  unfold wb_both_2
  rw [hW]
  have h5 : notLent [.fro (.tup A), .fro (.tup B), .own false (.lst fs), .fro (.int i), .fro (.int j), x5, x6] 5 := notLent_nilOr rfl n5
  rcases n5 with rfl | ⟨d5, rfl⟩ <;> rcases n6 with rfl | ⟨d6, rfl⟩ <;> (
    clear h5 hW
    revert h key
    walk_at "hs"
    intro h key
    by_cases hle : max p1 q1 ≤ min p2 q2
    · rw [if_pos hle] at h
      rw [if_pos (decide_eq_true hle)]
      exact ⟨⟨_, _, rfl, rfl⟩, by decide, big' _ hf, key _ h⟩
    · rw [if_neg hle] at h
      rw [if_neg (by rw [decide_eq_false hle]; exact Bool.false_ne_true)]
      exact key _ h)
theorem ok_both (args : List Dl.Slot) (Q : Dl.Slot → List Dl.Slot → Prop) (hl : args.length = 2) (h : C_both args Q) : noOwn args ∧ w_both (endsOf args Q) (args ++ List.replicate (7 - 2) .nil) := by
  obtain ⟨a, b, rfl, ca, cb, la, lb, hq⟩ := h
  refine ⟨noOwn2 _ _, ?_⟩
  unfold w_both
  walk_at "dl"
  refine ⟨Nat.zero_le _, by decide, bothI a b, ⟨_, 0, 0, [], .nil, .nil, rfl, Nat.zero_le _, Nat.zero_le _, ⟨ca, cb, Canon.nil, fun p hp => (nomatch hp), fun x => ⟨.inr, fun z => z.elim (fun z => absurd z In.nil) id⟩⟩, Nat.zero_le _, .inl rfl, .inl rfl, rfl⟩, ?_⟩
  rintro m ρ' ⟨i, j, fs, x5, x6, rfl, hi, hj, I, hf, n5, n6, rfl⟩
  unfold rsD
  walk_at "dl"
  rw [List.length_map, List.length_map]
  have fin : ¬ (i < a.length ∧ j < b.length) → wr_both_3 (endsOf [.fro (rsD a), .fro (rsD b)] Q) [.fro (rsD a), .fro (rsD b), .own false (.lst (fs.map pairD)), .fro (.int i), .fro (.int j), x5, x6] := fun hno => by
    unfold wr_both_3
    walk_at "dl"
    refine hq fs I.cf (by omega) fun x => ?_
    rw [I.cov x]
    refine ⟨.inl, fun z => z.elim id fun z => ?_⟩
    by_cases h1 : i < a.length
    · have e : b.drop j = [] := List.drop_eq_nil_of_le (by omega)
      rw [e] at z
      exact absurd z.2 In.nil
    · have e : a.drop i = [] := List.drop_eq_nil_of_le (by omega)
      rw [e] at z
      exact absurd z.1 In.nil
  by_cases h1 : i < a.length
  · rw [if_pos (decide_eq_true (Int.ofNat_lt.mpr h1))]
    by_cases h2 : j < b.length
    · rw [if_pos (decide_eq_true (Int.ofNat_lt.mpr h2))]
      have ea := drop_at h1
      have eb := drop_at h2
      rw [ea, eb] at I
      refine body_both (atI_pair h1) (atI_pair h2) n5 n6 (by rw [List.length_map]; omega) ?_
      generalize a[i] = p at I ea
      generalize b[j] = q at I eb
      show ∃ m', m' < _ ∧ bothI a b m' _
      by_cases hlt : p.2 < q.2
      · rw [if_pos hlt, if_pos hlt]
        have I' := I.step (Int.le_of_lt hlt)
        have em : min p.2 q.2 = p.2 := Int.min_eq_left (Int.le_of_lt hlt)
        rw [em]
        rw [← eb] at I'
        refine ⟨(a.length - (i + 1)) + (b.length - j), by omega, i + 1, j, _, .fro (.int (max p.1 q.1)), .fro (.int p.2), rfl, h1, hj, I', ?_, .inr ⟨_, rfl⟩, .inr ⟨_, rfl⟩, ?_⟩
        · split
          · rw [List.length_append, List.length_singleton]; omega
          · omega
        · split
          · rw [List.map_append]; rfl
          · rfl
      · rw [if_neg hlt, if_neg hlt]
        have I' := (I.swap.step (Int.not_lt.mp hlt)).swap
        have em : min p.2 q.2 = q.2 := Int.min_eq_right (Int.not_lt.mp hlt)
        rw [em, Int.max_comm p.1]
        rw [← ea] at I'
        refine ⟨(a.length - i) + (b.length - (j + 1)), by omega, i, j + 1, _, .fro (.int (max q.1 p.1)), .fro (.int q.2), rfl, hi, h2, I', ?_, .inr ⟨_, rfl⟩, .inr ⟨_, rfl⟩, ?_⟩
        · split
          · rw [List.length_append, List.length_singleton]; omega
          · omega
        · split
          · rw [List.map_append]; rfl
          · rfl
    · rw [if_neg (by rw [decide_eq_false (fun z => h2 (Int.ofNat_lt.mp z))]; exact Bool.false_ne_true)]
      exact fin fun z => h2 z.2
  · rw [if_neg (by rw [decide_eq_false (fun z => h1 (Int.ofNat_lt.mp z))]; exact Bool.false_ne_true)]
    exact fin fun z => h1 z.1
end Lw
namespace Lw
open PySem L2 Dl Rs
local macro_rules | `(tactic| walk_at "dl") => `(tactic| simp (config := { maxSteps := 400000 }) only [wSeq, wIfS, wAnd, wOr, wNot, wRet, wDrop, wNext, wBrk, wCnt, wAndV, wOrV, wNotV, wB, wIf, wCB, wArgs, wVar, wC, wTup, wLst, wOp, wChain, wNeg, wSl, wP, wNoP, wSet, wPar, wAsg, wCall, wCallP, wCallN, wApp, wExt, wMt, gApp, gExt, wSetIx, wSeqI, wRng1, wRng2, wZip, wEnum, wFor, withL, lookL, lookD, with2, frz, frzL, prep, put, notLent, kindO, gTp, gNms, gNm, O.d, itemsOf, leave, endsOf, outsOf, clean, wYes,
    gI, gIC, Dl.gSub, gFdiv, gMod, gPow, gLt, gLe, gGt, gGe, gAdd, gMul, gIsN, gNotN, Dl.isNon, gIx, gSl, gLen, gAbs, gInt1, gMax2, gMin2, gTuple, gList, gIsi, atI_0, atI_1, atI_2, atI_m1,
    List.getElem?_cons_zero, List.getElem?_cons_succ, List.set_cons_zero, List.set_cons_succ, List.cons_append, List.nil_append, List.append_nil, List.replicate, List.length_cons, List.length_nil, List.map_cons, List.map_nil, Nat.reduceAdd, Nat.reduceSub, Nat.add_one_sub_one,
    true_and, and_true, if_true, if_false, Bool.false_eq_true, Bool.not_true, Bool.not_false, reduceIte, ite_true, ite_false])
local macro_rules | `(tactic| walk_at "lb") => `(tactic| simp (config := { maxSteps := 400000 }) only [lcBody, wipeD, back, Option.getD_some, wSeq, wIfS, wAnd, wOr, wNot, wRet, wDrop, wNext, wBrk, wCnt, wAndV, wOrV, wNotV, wB, wIf, wCB, wArgs, wVar, wC, wTup, wLst, wOp, wChain, wNeg, wSl, wP, wNoP, wSet, wPar, wAsg, wCall, wCallP, wCallN, wApp, wExt, wMt, gApp, gExt, wSetIx, wSeqI, wRng1, wRng2, wZip, wEnum, wFor, withL, lookL, lookD, with2, frz, frzL, prep, put, notLent, kindO, gTp, gNms, gNm, O.d, itemsOf, leave, endsOf, outsOf, clean, wYes,
    gI, gIC, Dl.gSub, gFdiv, gMod, gPow, gLt, gLe, gGt, gGe, gAdd, gMul, gIsN, gNotN, Dl.isNon, gIx, gSl, gLen, gAbs, gInt1, gMax2, gMin2, gTuple, gList, gIsi, atI_0, atI_1, atI_2, atI_m1,
    List.getElem?_cons_zero, List.getElem?_cons_succ, List.set_cons_zero, List.set_cons_succ, List.cons_append, List.nil_append, List.append_nil, List.replicate, List.length_cons, List.length_nil, List.map_cons, List.map_nil, Nat.reduceAdd, Nat.reduceSub, Nat.add_one_sub_one,
    true_and, and_true, if_true, if_false, Bool.false_eq_true, Bool.not_true, Bool.not_false, reduceIte, ite_true, ite_false])
theorem ok_append {a b : RS} (ha : Ok a) (hb : Ok b) : Ok (a ++ b) := fun p hp => (List.mem_append.mp hp).elim (ha p) (hb p)
theorem ok_either (args : List Dl.Slot) (Q : Dl.Slot → List Dl.Slot → Prop) (hl : args.length = 2) (h : C_either args Q) : noOwn args ∧ w_either (endsOf args Q) (args ++ List.replicate (2 - 2) .nil) := by
  obtain ⟨a, b, rfl, oa, ob, la, lb, hq⟩ := h
  refine ⟨noOwn2 _ _, ?_⟩
  unfold w_either rsD
  walk_at "dl"
  rw [← List.map_append]
  refine ⟨by rw [List.length_map, List.length_map]; exact big _ (by omega), a ++ b, .inr rfl, ok_append oa ob, by rw [List.length_append]; omega, fun rs c n i => ?_⟩
  walk_at "dl"
  refine hq rs c (by rw [List.length_append] at n; exact n) fun x => ?_
  rw [i x, in_append]
structure GI (lo s : Int) (done fs : RS) : Prop where
  ge : lo ≤ s
  ok : Ok fs
  cov : ∀ x, lo ≤ x → x < s → (In fs x ↔ ¬ In done x)
  out : ∀ x, In fs x → lo ≤ x ∧ x < s
  below : ∀ x, In done x → x < s
theorem GI.step {lo s f l : Int} {done fs : RS} (h : GI lo s done fs) (hfl : f ≤ l) (hb : ∀ x, In done x → x < f) (hs0 : s = lo ∨ s ≤ f) : GI lo (max s (l + 1)) (done ++ [(f, l)]) (if s < f then fs ++ [(s, f - 1)] else fs) := by
  have hd : ∀ x, In (done ++ [(f, l)]) x ↔ In done x ∨ (f ≤ x ∧ x ≤ l) := fun x => by
    rw [in_append, in_cons (p := (f, l))]
    exact ⟨fun z => z.elim .inl fun z => z.elim .inr fun z => absurd z In.nil, fun z => z.elim .inl fun z => .inr (.inl z)⟩
  have hi : ∀ x, In (if s < f then fs ++ [(s, f - 1)] else fs) x ↔ In fs x ∨ (s ≤ x ∧ x < f) := fun x => by
    by_cases hs : s < f
    · rw [if_pos hs, in_append, in_cons (p := (s, f - 1))]
      constructor
      · rintro (z | z | z)
        · exact .inl z
        · have z1 : s ≤ x := z.1
          have z2 : x ≤ f - 1 := z.2
          exact .inr ⟨z1, by omega⟩
        · exact absurd z In.nil
      · rintro (z | z)
        · exact .inl z
        · exact .inr (.inl ⟨z.1, show x ≤ f - 1 by omega⟩)
    · rw [if_neg hs]
      exact ⟨.inl, fun z => z.elim id fun z => by omega⟩
  refine ⟨by have := h.ge; omega, ?_, fun x h1 h2 => ?_, fun x hx => ?_, fun x hx => ?_⟩
  · by_cases hs : s < f
    · rw [if_pos hs]
      refine ok_append h.ok fun p hp => ?_
      rw [List.mem_singleton.mp hp]
      show s ≤ f - 1
      omega
    · rw [if_neg hs]; exact h.ok
  · rw [hi x, hd x]
    by_cases hx : x < s
    · have := h.cov x h1 hx
      constructor
      · rintro (z | z)
        · rintro (w | w)
          · exact this.1 z w
          · have := h.out x z
            omega
        · omega
      · intro z
        exact .inl (this.2 fun w => z (.inl w))
    · constructor
      · rintro (z | z)
        · have := h.out x z; omega
        · rintro (w | w)
          · have := hb x w
            have := h.below x w
            omega
          · omega
      · intro z
        refine .inr ⟨by omega, ?_⟩
        by_cases hfx : x < f
        · exact hfx
        · exact absurd (.inr ⟨by omega, by omega⟩) z
  · have hge := h.ge
    rcases (hi x).1 hx with z | z
    · have := h.out x z; omega
    · omega
  · rcases (hd x).1 hx with z | z
    · have := h.below x z; omega
    · omega
theorem gTp2 {ρ : List Dl.Slot} {i j : Nat} {a b : D} {k : List Dl.Slot → Prop} (h1 : notLent ρ i) (h2 : notLent ρ j) (hij : i ≠ j) (h : k ((ρ.set i (.fro a)).set j (.fro b))) : gTp [i, j] (.tup [a, b]) ρ k := by
  refine ⟨h1, ?_, h⟩
  unfold notLent at h2 ⊢
  rw [List.getElem?_set_ne hij]
  exact h2
theorem loop_gaps (KD : DEnds) (a0 : Dl.Slot) (lo hi : Int) : ∀ (qs done fs : RS) (s : Int) (x5 x6 : Dl.Slot), GI lo s done fs → Canon qs → (∀ q ∈ qs, ∀ x, In done x → x < q.1) → (∀ q ∈ qs, s = lo ∨ s ≤ q.1) → nilOr x5 → nilOr x6 → fs.length + qs.length < 16000000 →
    (∀ (fs' : RS) (s' : Int) (x5' x6' : Dl.Slot), GI lo s' (done ++ qs) fs' → fs'.length ≤ fs.length + qs.length → nilOr x5' → nilOr x6' → KD.nx [a0, .fro (.int lo), .fro (.int hi), .own false (.lst (fs'.map pairD)), .fro (.int s'), x5', x6', .nil]) →
    loop (gTp [5, 6]) wb_gaps_2 KD (qs.map pairD) [a0, .fro (.int lo), .fro (.int hi), .own false (.lst (fs.map pairD)), .fro (.int s), x5, x6, .nil]
  | [], done, fs, s, x5, x6, hG, _, _, _, n5, n6, _, hk => hk fs s x5 x6 (by rw [List.append_nil]; exact hG) (by simp) n5 n6
  | (f, l) :: qs, done, fs, s, x5, x6, hG, hc, hb, hs, n5, n6, hn, hk => by
    have hfl : f ≤ l := hc.head
    have G1 := hG.step hfl (hb (f, l) (by simp)) (hs (f, l) (by simp))
    have hgap := (List.pairwise_cons.mp hc.gap).1
    rw [List.length_cons] at hn hk
    rw [List.map_cons, loop_cons, pairD_eq]
    refine gTp2 (notLent_nilOr rfl n5) (notLent_nilOr rfl n6) (by decide) ?_
    have ih : ∀ fs1 : RS, GI lo (max s (l + 1)) (done ++ [(f, l)]) fs1 → fs1.length ≤ fs.length + 1 → loop (gTp [5, 6]) wb_gaps_2 KD (qs.map pairD) [a0, .fro (.int lo), .fro (.int hi), .own false (.lst (fs1.map pairD)), .fro (.int (max s (l + 1))), .fro (.int f), .fro (.int l), .nil] := fun fs1 G2 hl1 => by
      refine loop_gaps KD a0 lo hi qs (done ++ [(f, l)]) fs1 _ _ _ G2 hc.tail (fun q hq x hx => ?_) (fun q hq => ?_) (.inr ⟨_, rfl⟩) (.inr ⟨_, rfl⟩) (by omega) fun fs' s' x5' x6' g n m5 m6 => hk fs' s' x5' x6' (by rw [List.append_assoc] at g; exact g) (by omega) m5 m6
      · have h2 := hgap q hq
        have h2 : l + 1 < q.1 := h2
        rcases in_append.1 hx with z | z
        · exact hb q (List.mem_cons_of_mem _ hq) x z
        · rcases in_cons.1 z with z | z
          · have z2 : x ≤ l := z.2
            omega
          · exact absurd z In.nil
      · have h2 := hgap q hq
        have h2 : l + 1 < q.1 := h2
        have := hs q (List.mem_cons_of_mem _ hq)
        omega
    generalize hL : loop (gTp [5, 6]) wb_gaps_2 KD (qs.map pairD) = L at ih ⊢
    unfold wb_gaps_2 wr_gaps_1
    walk_at "dl"
    by_cases hsf : s < f
    · rw [if_pos (decide_eq_true hsf)]
      rw [if_pos hsf] at G1
      refine ⟨⟨_, _, rfl, rfl⟩, by decide, by rw [List.length_map]; exact big' _ (by omega), ?_⟩
      have em : fs.map pairD ++ [D.tup [D.int s, D.int (f - 1)]] = (fs ++ [(s, f - 1)]).map pairD := by rw [List.map_append]; rfl
      rw [em]
      exact ih _ G1 (by rw [List.length_append, List.length_singleton]; omega)
    · rw [if_neg (by rw [decide_eq_false hsf]; exact Bool.false_ne_true)]
      rw [if_neg hsf] at G1
      exact ih _ G1 (by omega)
theorem lcl_sel {g : WG} {t : WT} {e : WE} {vs : List Nat} {Q : List D → List Dl.Slot → Prop} {ρ : List Dl.Slot} {f : D → D} {c : D → Bool} {P : D → Prop} (n : Nat) (hn : n ≤ 15000000)
    (step : ∀ d, P d → ∀ (k1 : D → List Dl.Slot → Prop) (k0 : List Dl.Slot → Prop), (if c d = true then k1 (f d) ρ else k0 ρ) → g d (wipeD ρ vs) (lcBody t e ρ vs k1 k0)) :
    ∀ (ds acc : List D), (∀ d ∈ ds, P d) → ds.length + acc.length ≤ n → Q (acc ++ (ds.filter c).map f) ρ → lcl g t e vs Q ds ρ acc
  | [], acc, _, _, hq => by rw [List.filter_nil, List.map_nil, List.append_nil] at hq; exact hq
  | d :: ds, acc, hP, hl, hq => by
    rw [List.length_cons] at hl
    refine step d (hP d (by simp)) _ _ ?_
    by_cases hc : c d = true
    · rw [if_pos hc]
      refine ⟨big' _ (by omega), lcl_sel n hn step ds _ (fun x hx => hP x (List.mem_cons_of_mem _ hx)) (by rw [List.length_append, List.length_singleton]; omega) ?_⟩
      rw [List.filter_cons_of_pos hc] at hq
      rw [List.append_assoc]
      exact hq
    · rw [if_neg hc]
      refine lcl_sel n hn step ds _ (fun x hx => hP x (List.mem_cons_of_mem _ hx)) (by omega) ?_
      rw [List.filter_cons_of_neg hc] at hq
      exact hq
def full (rs : RS) : RS := rs.filter fun p => decide (p.1 ≤ p.2)
theorem full_ok (rs : RS) : Ok (full rs) := fun p hp => of_decide_eq_true (List.mem_filter.mp hp).2
theorem in_full (rs : RS) (x : Int) : In (full rs) x ↔ In rs x := ⟨fun ⟨p, h, z⟩ => ⟨p, (List.mem_filter.mp h).1, z⟩, fun ⟨p, h, z⟩ => ⟨p, List.mem_filter.mpr ⟨h, decide_eq_true (Int.le_trans z.1 z.2)⟩, z⟩⟩
def fullD : D → Bool
  | .tup [.int a, .int b] => decide (a ≤ b)
  | _ => false
theorem filter_full (rs : RS) : (rs.map pairD).filter fullD = (full rs).map pairD := by
  rw [List.filter_map]; rfl
theorem ok_gaps (args : List Dl.Slot) (Q : Dl.Slot → List Dl.Slot → Prop) (hl : args.length = 3) (h : C_gaps args Q) : noOwn args ∧ w_gaps (endsOf args Q) (args ++ List.replicate (8 - 3) .nil) := by
  obtain ⟨a, lo, hi, rfl, ca, hle, la, hq⟩ := h
  refine ⟨noOwn3 _ _ _, ?_⟩
  unfold w_gaps
  unfold rsD at hq ⊢
  walk_at "dl"
  refine ⟨Nat.zero_le _, ?_⟩
  refine loop_gaps _ _ lo hi a [] [] lo .nil .nil ⟨Int.le_refl _, fun p hp => (nomatch hp), fun x h1 h2 => by omega, fun x hx => absurd hx In.nil, fun x hx => absurd hx In.nil⟩ ca (fun q _ x hx => absurd hx In.nil) (fun q _ => .inl rfl) (.inl rfl) (.inl rfl) (by rw [List.length_nil]; omega) fun fs s x5 x6 g n n5 n6 => ?_
  rw [List.nil_append] at g
  rw [List.length_nil, Nat.zero_add] at n
  dsimp only
  unfold wr_gaps_3 wLc
  walk_at "dl"
  refine ⟨⟨_, _, rfl, rfl⟩, by decide, by rw [List.length_map]; exact big' _ (by omega), ?_⟩
  have em : fs.map pairD ++ [D.tup [D.int s, D.int hi]] = (fs ++ [(s, hi)]).map pairD := by rw [List.map_append]; rfl
  rw [em]
  generalize hgs : fs ++ [(s, hi)] = gs
  have hgl : gs.length ≤ a.length + 1 := by rw [← hgs, List.length_append, List.length_singleton]; omega
  have hP : ∀ d ∈ gs.map pairD, ∃ p : Int × Int, d = pairD p := fun d hd => by
    obtain ⟨p, _, rfl⟩ := List.mem_map.mp hd
    exact ⟨p, rfl⟩
  have hin : ∀ x, (lo ≤ x ∧ x ≤ hi) → (In gs x ↔ ¬ In a x) := fun x hx => by
    rw [← hgs, in_append, in_cons (p := (s, hi))]
    by_cases hs : x < s
    · rw [g.cov x hx.1 hs]
      refine ⟨fun z => z.elim id fun z => ?_, .inl⟩
      rcases z with z | z
      · have z1 : s ≤ x := z.1
        omega
      · exact absurd z In.nil
    · refine ⟨fun _ w => ?_, fun _ => .inr (.inl ⟨show s ≤ x by omega, hx.2⟩)⟩
      have := g.below x w
      omega
  refine lcl_sel (f := id) (c := fullD) (P := fun d => ∃ p : Int × Int, d = pairD p) 1000000 (by decide) (fun d hd k1 k0 hk => ?_) _ [] hP (by simp only [List.length_map, List.length_nil]; omega) ?_
  · obtain ⟨p, rfl⟩ := hd
    unfold pairD at hk ⊢
    rcases n5 with rfl | ⟨d5, rfl⟩ <;> rcases n6 with rfl | ⟨d6, rfl⟩ <;> (
      walk_at "lb"
      exact hk)
  · rw [List.nil_append, List.map_id, filter_full]
    refine ⟨full gs, .inl rfl, full_ok gs, Nat.le_trans (List.length_filter_le _ _) (by omega), fun rs c n1 i1 => ?_⟩
    walk_at "dl"
    refine ⟨by decide, by decide, rs, [(lo, hi)], rfl, c, ⟨fun p hp => by rw [List.mem_singleton.mp hp]; exact hle, by simp⟩, ?_, show 1 ≤ 1000000 by decide, fun rs2 c2 n2 i2 => ?_⟩
    · have := List.length_filter_le (fun p : Int × Int => decide (p.1 ≤ p.2)) gs
      unfold full at n1
      omega
    · walk_at "dl"
      have h3 := List.length_filter_le (fun p : Int × Int => decide (p.1 ≤ p.2)) gs
      unfold full at n1
      refine hq rs2 c2 (by rw [List.length_singleton] at n2; omega) fun x => ?_
      rw [i2 x, i1 x, in_full, in_cons (p := (lo, hi))]
      constructor
      · rintro ⟨z1, z2 | z2⟩
        · exact ⟨z2, (hin x z2).1 z1⟩
        · exact absurd z2 In.nil
      · rintro ⟨z1, z2⟩
        exact ⟨(hin x z1).2 z2, .inl z1⟩
end Lw
namespace Lw
open PySem L2 Dl Rs
local macro_rules | `(tactic| walk_at "dl") => `(tactic| simp (config := { maxSteps := 400000 }) only [wSeq, wIfS, wAnd, wOr, wNot, wRet, wDrop, wNext, wBrk, wCnt, wAndV, wOrV, wNotV, wB, wIf, wCB, wArgs, wVar, wC, wTup, wLst, wOp, wChain, wNeg, wSl, wP, wNoP, wSet, wPar, wAsg, wCall, wCallP, wCallN, wApp, wExt, wMt, gApp, gExt, wSetIx, wSeqI, wRng1, wRng2, wZip, wEnum, wFor, withL, lookL, lookD, with2, frz, frzL, prep, put, notLent, kindO, gTp, gNms, gNm, O.d, itemsOf, leave, endsOf, outsOf, clean, wYes,
    gI, gIC, Dl.gSub, gFdiv, gMod, gPow, gLt, gLe, gGt, gGe, gAdd, gMul, gIsN, gNotN, Dl.isNon, gIx, gSl, gLen, gAbs, gInt1, gMax2, gMin2, gTuple, gList, gIsi, atI_0, atI_1, atI_2, atI_m1,
    List.getElem?_cons_zero, List.getElem?_cons_succ, List.set_cons_zero, List.set_cons_succ, List.cons_append, List.nil_append, List.append_nil, List.replicate, List.length_cons, List.length_nil, List.map_cons, List.map_nil, Nat.reduceAdd, Nat.reduceSub, Nat.add_one_sub_one,
    true_and, and_true, if_true, if_false, Bool.false_eq_true, Bool.not_true, Bool.not_false, reduceIte, ite_true, ite_false])
local macro_rules | `(tactic| walk_at "hs") => `(tactic| simp (config := { maxSteps := 400000 }) only [wSeq, wIfS, wAnd, wOr, wNot, wRet, wDrop, wNext, wBrk, wCnt, wAndV, wOrV, wNotV, wB, wIf, wCB, wArgs, wVar, wC, wTup, wLst, wOp, wChain, wNeg, wSl, wP, wNoP, wSet, wPar, wAsg, wCall, wCallP, wCallN, wApp, wExt, wMt, gApp, gExt, wSetIx, wSeqI, wRng1, wRng2, wZip, wEnum, wFor, withL, lookL, lookD, with2, frz, frzL, prep, put, notLent, kindO, gTp, gNms, gNm, O.d, itemsOf, leave, endsOf, outsOf, clean, wYes,
    gI, gIC, Dl.gSub, gFdiv, gMod, gPow, gLt, gLe, gGt, gGe, gAdd, gMul, gIsN, gNotN, Dl.isNon, gIx, gSl, gLen, gAbs, gInt1, gMax2, gMin2, gTuple, gList, gIsi, atI_0, atI_1, atI_2, atI_m1,
    List.getElem?_cons_zero, List.getElem?_cons_succ, List.set_cons_zero, List.set_cons_succ, List.cons_append, List.nil_append, List.append_nil, List.replicate, List.length_cons, List.length_nil, List.map_cons, List.map_nil, Nat.reduceAdd, Nat.reduceSub, Nat.add_one_sub_one,
    true_and, and_true, if_true, if_false, Bool.false_eq_true, Bool.not_true, Bool.not_false, reduceIte, ite_true, ite_false, *])
theorem without_go {a b : RS} {p1 p2 q1 q2 : Int} {KD : DEnds} (h0 : atI (a.map pairD) 0 = some (.tup [.int p1, .int p2])) (h1 : atI (a.map pairD) (-1) = some (.tup [.int q1, .int q2]))
    (h : C_gaps [.fro (rsD b), .fro (.int p1), .fro (.int q2)] fun s _ => ∃ d, s = .fro d ∧ C_both [.fro (.tup (a.map pairD)), .fro d] fun s _ => ∃ d, s = .fro d ∧ KD.rt s [.fro (.tup (a.map pairD)), .fro (rsD b)]) :
    wRet (wCall C_both [(wVar 0), (wCall C_gaps [(wVar 1), (wOp gIx (wOp gIx (wVar 0) (wC (.int 0))) (wC (.int 0))), (wOp gIx (wOp gIx (wVar 0) (wNeg (wC (.int 1)))) (wC (.int 1)))])]) KD [.fro (.tup (a.map pairD)), .fro (rsD b)] := by
  revert h
  walk_at "hs"
  rintro ⟨b', lo, hi, e, cb, hle, lb, hq⟩
  refine ⟨b', lo, hi, e, cb, hle, lb, fun rs c n i => ?_⟩
  obtain ⟨d, hd, a1, b1, e1, ca1, cb1, la1, lb1, hq1⟩ := hq rs c n i
  cases hd
  walk_at "dl"
  refine ⟨a1, b1, e1, ca1, cb1, la1, lb1, fun rs2 c2 n2 i2 => ?_⟩
  obtain ⟨d2, hd2, hq2⟩ := hq1 rs2 c2 n2 i2
  cases hd2
  walk_at "dl"
  exact hq2
theorem ends_of_canon {a : RS} (h : Canon a) (hn : a ≠ []) : ∃ p q : Int × Int, atI (a.map pairD) 0 = some (.tup [.int p.1, .int p.2]) ∧ atI (a.map pairD) (-1) = some (.tup [.int q.1, .int q.2]) ∧ p.1 ≤ q.2 ∧ ∀ x, In a x → p.1 ≤ x ∧ x ≤ q.2 := by
  rcases List.eq_nil_or_concat a with rfl | ⟨as, q, rfl⟩
  · exact absurd rfl hn
  have hx2 : ∀ x, In (as.concat q) x → x ≤ q.2 := fun x hx => by
    rw [List.concat_eq_append] at hx h
    rcases in_append.1 hx with z | z
    · obtain ⟨r, hr, _, z2⟩ := z
      have := (List.pairwise_append.mp h.gap).2.2 r hr q (by simp)
      unfold Gap at this
      have := h.ok q (by simp)
      omega
    · rcases in_cons.1 z with z | z
      · exact z.2
      · exact absurd z In.nil
  have e1 : atI ((as.concat q).map pairD) (-1) = some (.tup [.int q.1, .int q.2]) := by
    rw [List.concat_eq_append, List.map_append]
    exact atI_m1
  generalize as.concat q = a at h hx2 e1 hn
  match a, h, hx2, e1, hn with
  | p :: a, h, hx2, e1, _ =>
    have hp := h.head
    refine ⟨p, q, by rw [List.map_cons]; exact atI_0, e1, Int.le_trans hp (hx2 p.2 (in_cons.2 (.inl ⟨hp, Int.le_refl _⟩))), fun x hx => ⟨?_, hx2 x hx⟩⟩
    rcases in_cons.1 hx with z | z
    · exact z.1
    · have := h.above z; omega
theorem ok_without (args : List Dl.Slot) (Q : Dl.Slot → List Dl.Slot → Prop) (hl : args.length = 2) (h : C_without args Q) : noOwn args ∧ w_without (endsOf args Q) (args ++ List.replicate (2 - 2) .nil) := by
  obtain ⟨a, b, rfl, ca, cb, la, lb, hq⟩ := h
  refine ⟨noOwn2 _ _, ?_⟩
  unfold w_without
  generalize hW : wRet (wCall _ _) = W
  walk_at "dl"
  have e0 : D.tup [] = rsD [] := rfl
  rw [e0, gEq_rs]
  refine ⟨by decide, ?_⟩
  by_cases hn : a = []
  · subst hn
    walk_at "dl"
    exact ⟨by decide, hq [] Canon.nil (Nat.zero_le _) fun x => ⟨fun z => absurd z In.nil, fun z => absurd z.1 In.nil⟩⟩
  · have hd : decide (a = []) = false := decide_eq_false hn
    rw [hd]
    walk_at "dl"
    subst hW
    obtain ⟨p, q, h0, h1, hpq, hin⟩ := ends_of_canon ca hn
    refine without_go h0 h1 ⟨b, p.1, q.2, rfl, cb, hpq, lb, fun rs c n i => ⟨_, rfl, a, rs, rfl, ca, c, by omega, by omega, fun rs2 c2 n2 i2 => ⟨_, rfl, hq rs2 c2 (by omega) fun x => ?_⟩⟩⟩
    rw [i2 x, i x]
    exact ⟨fun z => ⟨z.1, z.2.2⟩, fun z => ⟨z.1, hin x z.1, z.2⟩⟩
end Lw
namespace Lw
open PySem L2 Dl Rs
local macro_rules | `(tactic| walk_at "dl") => `(tactic| simp (config := { maxSteps := 400000 }) only [wSeq, wIfS, wAnd, wOr, wNot, wRet, wDrop, wNext, wBrk, wCnt, wAndV, wOrV, wNotV, wB, wIf, wCB, wArgs, wVar, wC, wTup, wLst, wOp, wChain, wNeg, wSl, wP, wNoP, wSet, wPar, wAsg, wCall, wCallP, wCallN, wApp, wExt, wMt, gApp, gExt, wSetIx, wSeqI, wRng1, wRng2, wZip, wEnum, wFor, withL, lookL, lookD, with2, frz, frzL, prep, put, notLent, kindO, gTp, gNms, gNm, O.d, itemsOf, leave, endsOf, outsOf, clean, wYes,
    gI, gIC, Dl.gSub, gFdiv, gMod, gPow, gLt, gLe, gGt, gGe, gAdd, gMul, gIsN, gNotN, Dl.isNon, gIx, gSl, gLen, gAbs, gInt1, gMax2, gMin2, gTuple, gList, gIsi, atI_0, atI_1, atI_2, atI_m1,
    List.getElem?_cons_zero, List.getElem?_cons_succ, List.set_cons_zero, List.set_cons_succ, List.cons_append, List.nil_append, List.append_nil, List.replicate, List.length_cons, List.length_nil, List.map_cons, List.map_nil, Nat.reduceAdd, Nat.reduceSub, Nat.add_one_sub_one,
    true_and, and_true, if_true, if_false, Bool.false_eq_true, Bool.not_true, Bool.not_false, reduceIte, ite_true, ite_false])
local macro_rules | `(tactic| walk_at "lb") => `(tactic| simp (config := { maxSteps := 400000 }) only [lcBody, wipeD, back, Option.getD_some, wSeq, wIfS, wAnd, wOr, wNot, wRet, wDrop, wNext, wBrk, wCnt, wAndV, wOrV, wNotV, wB, wIf, wCB, wArgs, wVar, wC, wTup, wLst, wOp, wChain, wNeg, wSl, wP, wNoP, wSet, wPar, wAsg, wCall, wCallP, wCallN, wApp, wExt, wMt, gApp, gExt, wSetIx, wSeqI, wRng1, wRng2, wZip, wEnum, wFor, withL, lookL, lookD, with2, frz, frzL, prep, put, notLent, kindO, gTp, gNms, gNm, O.d, itemsOf, leave, endsOf, outsOf, clean, wYes,
    gI, gIC, Dl.gSub, gFdiv, gMod, gPow, gLt, gLe, gGt, gGe, gAdd, gMul, gIsN, gNotN, Dl.isNon, gIx, gSl, gLen, gAbs, gInt1, gMax2, gMin2, gTuple, gList, gIsi, atI_0, atI_1, atI_2, atI_m1,
    List.getElem?_cons_zero, List.getElem?_cons_succ, List.set_cons_zero, List.set_cons_succ, List.cons_append, List.nil_append, List.append_nil, List.replicate, List.length_cons, List.length_nil, List.map_cons, List.map_nil, Nat.reduceAdd, Nat.reduceSub, Nat.add_one_sub_one,
    true_and, and_true, if_true, if_false, Bool.false_eq_true, Bool.not_true, Bool.not_false, reduceIte, ite_true, ite_false])
theorem rangeD_succ (i : Int) (m : Nat) : rangeD i (m + 1) = .int i :: rangeD (i + 1) m := by
  unfold rangeD
  rw [List.range_succ_eq_map, List.map_cons, List.map_map]
  congr 1
  · congr 1; omega
  · refine List.map_congr_left fun k _ => ?_
    show D.int (i + ((k + 1 : Nat) : Int)) = D.int (i + 1 + (k : Int))
    congr 1
    omega
end Lw
namespace Lw
open PySem L2 Dl Rs
def Pot (n : Int) (o : O) : Prop := ∃ a b c : Int, o = .lst [.int a, .int b, .int c] ∧ 0 ≤ a ∧ 0 ≤ b ∧ b < 2 ^ 62 ∧ 0 ≤ c ∧ c ≤ n
theorem Pot.mono {n m : Int} {o : O} (h : Pot n o) (hn : n ≤ m) : Pot m o := by
  obtain ⟨a, b, c, e, h1, h2, h3, h4, h5⟩ := h
  exact ⟨a, b, c, e, h1, h2, h3, h4, by omega⟩
def C__law_pot : WE := fun args Q => ∃ (ns : List Int) (k : Int), args = [.fro (.arg ns), .fro (.int k)] ∧ 0 ≤ k ∧ k < 1000 ∧ ∀ o, Pot 0 o → Q (.own false o) args
def C__law_draw : WE := fun args Q => ∃ (n : Int) (o : O) (m : Int), args = [.own true o, .fro (.int m)] ∧ Pot n o ∧ n < 8000000 ∧ 0 < m ∧ m < 2 ^ 200 ∧ ∀ r o', 0 ≤ r → r < m → Pot (n + 1) o' → Q (.fro (.int r)) [.own true o', .fro (.int m)]
def C__law_any : WE := fun args Q => ∃ (n : Int) (o : O) (d : D) (ds : List D), args = [.own true o, .fro d] ∧ (d = .lst ds ∨ d = .tup ds) ∧ Pot n o ∧ n < 8000000 ∧ ds ≠ [] ∧ ds.length < 1000000 ∧ ∀ r o', r ∈ ds → Pot (n + 1) o' → Q (.fro r) [.own true o', .fro d]
def Within (lo hi : Int) (rs : RS) : Prop := ∀ p ∈ rs, lo ≤ p.1 ∧ p.2 ≤ hi
def C__law_spans : WE := fun args Q => ∃ (n : Int) (o : O) (most : Nat) (lo hi : Int), args = [.own true o, .fro (.int most), .fro (.int lo), .fro (.int hi)] ∧ Pot n o ∧ n + 2 * most < 7000000 ∧ most ≤ 1000 ∧ lo ≤ hi ∧ -(2 ^ 150) < lo ∧ hi < 2 ^ 150 ∧
  ∀ rs o', Canon rs → rs.length ≤ most → Within lo hi rs → Pot (n + 2 * most + 2) o' → Q (.fro (rsD rs)) [.own true o', .fro (.int most), .fro (.int lo), .fro (.int hi)]
theorem sq_le {c n : Int} (h0 : 0 ≤ c) (h : c ≤ n) : 0 ≤ c * c ∧ c * c ≤ n * n := ⟨Int.mul_nonneg h0 h0, Int.mul_le_mul h h h0 (Int.le_trans h0 h)⟩
theorem mod_in {a m : Int} (h : 0 < m) : 0 ≤ a % m ∧ a % m < m := ⟨Int.emod_nonneg _ (by omega), Int.emod_lt_of_pos _ h⟩
theorem div_W {i j : Int} (h : 0 < j) (hb : j < 2 ^ 200) : CDivW i j := wide_div (b := 200) h (by omega) (by decide) (by decide)
theorem atI_mem {ds : List D} {r : Int} (h0 : 0 ≤ r) (h1 : r < ds.length) : ∃ x, atI ds r = some x ∧ x ∈ ds := by
  obtain ⟨n, rfl⟩ := Int.eq_ofNat_of_zero_le h0
  have h : n < ds.length := by omega
  exact ⟨ds[n], atI_nat (List.getElem?_eq_getElem h), List.getElem_mem h⟩
theorem small {i : Int} {a : Nat} (h0 : 0 ≤ i) (h : i < 2 ^ a) : i.natAbs < 2 ^ a := by
  have e : ((i.natAbs : Nat) : Int) = i := Int.natAbs_of_nonneg h0
  rw [← e] at h
  exact_mod_cast h
theorem powB {i j : Int} (k : Nat) (h : i.natAbs < 2 ^ k) (h0 : 0 ≤ j) (hk : (k : Int) * j ≤ 2 ^ 27) : CPowB i j :=
  .inr ⟨h0, Int.le_trans (Int.mul_le_mul_of_nonneg_right (Int.ofNat_le.mpr (PyProof.Rows.intBits_le h)) h0) hk⟩
theorem mulW {i j : Int} (a b : Nat) (hi : 0 ≤ i) (hj : 0 ≤ j) (ha : i < 2 ^ a) (hb : j < 2 ^ b) (h0 : 0 < a) (h1 : 0 < b) (h : a + b ≤ 1000000) : CMulW i j := wide_mul (small hi ha) (small hj hb) h0 h1 h
theorem bit01 (c : Bool) : (0 : Int) ≤ (if c = true then 1 else 0) ∧ (if c = true then (1 : Int) else 0) < 2 ^ 62 := by cases c <;> decide
theorem ixN_30 : ixN 3 0 = some 0 := rfl
theorem ixN_32 : ixN 3 2 = some 2 := rfl
theorem bump {KD : DEnds} {W : WS} {a b c : Int} {r : List Dl.Slot} {l : Bool} (h : W KD (.own l (.lst [.int a, .int b, .int (c + 1)]) :: r)) : wSeq (wSetIx 0 (wC (.int 2)) (wOp gAdd (wOp gIx (wVar 0) (wC (.int 2))) (wC (.int 1)))) W KD (.own l (.lst [.int a, .int b, .int c]) :: r) :=
  show (∃ b' o', some (Slot.own l (.lst [.int a, .int b, .int c])) = some (Slot.own b' o')) ∧ W KD (.own l (.lst [.int a, .int b, .int (c + 1)]) :: r) from ⟨⟨_, _, rfl⟩, h⟩
theorem noOwnT {o : O} {ds : List D} : noOwn (.own true o :: ds.map .fro) := fun i o' e => by
  cases i with
  | zero => cases e
  | succ i =>
    have e : (ds.map Slot.fro)[i]? = _ := e
    rw [List.getElem?_map] at e
    cases q : ds[i]? with
    | none => rw [q] at e; cases e
    | some d => rw [q] at e; cases e
theorem noOwnT2 {o : O} {d : D} : noOwn [.own true o, .fro d] := noOwnT (ds := [d])
theorem noOwnT1 {o : O} : noOwn [.own true o] := noOwnT (ds := [])
theorem noOwnT4 {o : O} {d e f : D} : noOwn [.own true o, .fro d, .fro e, .fro f] := noOwnT (ds := [d, e, f])
end Lw
namespace Lw
open PySem L2 Dl Rs
local macro_rules | `(tactic| walk_at "dl") => `(tactic| simp (config := { maxSteps := 400000 }) only [wSeq, wIfS, wAnd, wOr, wNot, wRet, wDrop, wNext, wBrk, wCnt, wAndV, wOrV, wNotV, wB, wIf, wCB, wArgs, wVar, wC, wTup, wLst, wOp, wChain, wNeg, wSl, wP, wNoP, wSet, wPar, wAsg, wCall, wCallP, wCallN, wApp, wExt, wMt, gApp, gExt, wSetIx, wSeqI, wRng1, wRng2, wZip, wEnum, wFor, withL, lookL, lookD, with2, frz, frzL, prep, put, notLent, kindO, gTp, gNms, gNm, O.d, itemsOf, leave, endsOf, outsOf, clean, wYes,
    gI, gIC, Dl.gSub, gFdiv, gMod, gPow, gLt, gLe, gGt, gGe, gAdd, gMul, gIsN, gNotN, Dl.isNon, gIx, gSl, gLen, gAbs, gInt1, gMax2, gMin2, gTuple, gList, gIsi, atI_0, atI_1, atI_2, atI_m1, ixN_30, ixN_32,
    List.getElem?_cons_zero, List.getElem?_cons_succ, List.set_cons_zero, List.set_cons_succ, List.cons_append, List.nil_append, List.append_nil, List.replicate, List.length_cons, List.length_nil, List.map_cons, List.map_nil, Nat.reduceAdd, Nat.reduceSub, Nat.add_one_sub_one,
    true_and, and_true, if_true, if_false, Bool.false_eq_true, Bool.not_true, Bool.not_false, reduceIte, ite_true, ite_false])
def wr__law_pot_1 : WS := (wRet (wLst [(wVar 3), (wOp gMod (wCB gInt1 [(wOp gAdd (wOp gAdd (wOp gMul (wOp gMod (wCB gInt1 [(wVar 2)]) (wC (.int 2305843009213693951))) (wC (.int 71993))) (wOp gMul (wOp gMul (wC (.int 9241)) (wVar 1)) (wVar 1))) (wC (.int 53)))]) (wC (.int 2305843009213693921))), (wC (.int 0))]))
def wr__law_pot_2 : WS := (wSeq (wSet 3 (wOp gMul (wOp gMod (wCB gInt1 [(wCB gAbs [(wVar 2)])]) (wOp gPow (wOp gPow (wC (.int 10)) (wC (.int 60))) (wC (.int 5)))) (wCB gInt1 [(wOp gGe (wCB gAbs [(wVar 2)]) (wOp gPow (wC (.int 10)) (wC (.int 18))))])))
  wr__law_pot_1)
def w__law_pot : WS := (wSeq (wSet 2 (wIf (wB (wOp gLt (wVar 1) (wCB gLen [(wVar 0)]))) (wOp gIx (wVar 0) (wVar 1)) (wOp gAdd (wOp gMul (wC (.int 11)) (wVar 1)) (wC (.int 9)))))
  wr__law_pot_2)
def wr__law_draw_1 : WS := (wRet (wVar 2))
def wr__law_draw_2 : WS := (wSeq (wSetIx 0 (wC (.int 0)) (wOp gFdiv (wOp gIx (wVar 0) (wC (.int 0))) (wVar 1)))
  wr__law_draw_1)
def wr__law_draw_3 : WS := (wRet (wOp gMod (wCB gInt1 [(wOp gFdiv (wVar 4) (wC (.int 89)))]) (wVar 1)))
def wr__law_draw_4 : WS := (wSeq (wSet 4 (wOp gMod (wCB gInt1 [(wOp gMul (wVar 4) (wOp gAdd (wOp gMod (wCB gInt1 [(wVar 4)]) (wC (.int 10007))) (wOp gMul (wC (.int 83)) (wOp gIx (wVar 0) (wC (.int 2))))))]) (wC (.int 2305843009213693907))))
  wr__law_draw_3)
def wr__law_draw_5 : WS := (wSeq (wSet 4 (wOp gMod (wCB gInt1 [(wOp gPow (wOp gAdd (wOp gAdd (wOp gIx (wVar 0) (wC (.int 1))) (wOp gMul (wOp gMul (wC (.int 99991)) (wOp gIx (wVar 0) (wC (.int 2)))) (wOp gIx (wVar 0) (wC (.int 2))))) (wC (.int 61))) (wC (.int 3)))]) (wVar 3)))
  wr__law_draw_4)
def wr__law_draw_6 : WS := (wSeq (wSet 3 (wOp gIx (wLst [(wC (.int 2147483647)), (wC (.int 2147483629)), (wC (.int 2147483587)), (wC (.int 2147483579)), (wC (.int 2147483563))]) (wOp gMod (wCB gInt1 [(wOp gIx (wVar 0) (wC (.int 2)))]) (wC (.int 5)))))
  wr__law_draw_5)
def wr__law_draw_7 : WS := (wSeq (wSetIx 0 (wC (.int 2)) (wOp gAdd (wOp gIx (wVar 0) (wC (.int 2))) (wC (.int 1))))
  wr__law_draw_6)
def w__law_draw : WS := (wSeq (wIfS (wB (wOp gGt (wOp gIx (wVar 0) (wC (.int 0))) (wC (.int 0)))) (wSeq (wSet 2 (wOp gMod (wCB gInt1 [(wOp gIx (wVar 0) (wC (.int 0)))]) (wVar 1)))
  wr__law_draw_2) wNext)
  wr__law_draw_7)
def w__law_any : WS := (wRet (wOp gIx (wVar 1) (wCallP C__law_draw 0 [(wCB gLen [(wVar 1)])])))
theorem ok__law_pot (args : List Dl.Slot) (Q : Dl.Slot → List Dl.Slot → Prop) (hl : args.length = 2) (h : C__law_pot args Q) : noOwn args ∧ w__law_pot (endsOf args Q) (args ++ List.replicate (4 - 2) .nil) := by
  obtain ⟨ns, k, rfl, hk, hk2, hq⟩ := h
  refine ⟨noOwn2 _ _, ?_⟩
  have fin : ∀ cell own : Int, 0 ≤ own → wr__law_pot_1 (endsOf [.fro (.arg ns), .fro (.int k)] Q) [.fro (.arg ns), .fro (.int k), .fro (.int cell), .fro (.int own)] := fun cell own ho => by
    unfold wr__law_pot_1
    walk_at "dl"
    refine ⟨by decide, ?_, ?_, ?_, by decide, by decide, hq _ ⟨_, _, _, rfl, ho, ?_, ?_, Int.le_refl _, Int.le_refl _⟩⟩
    · have hx := mod_in (a := cell) (m := 2305843009213693951) (by decide)
      exact mulW 62 62 hx.1 (by decide) (Int.lt_trans hx.2 (by decide)) (by decide) (by decide) (by decide) (by decide)
    · exact mulW 62 62 (by decide) hk (by decide) (by omega) (by decide) (by decide) (by decide)
    · exact mulW 62 62 (by omega) hk (by omega) (by omega) (by decide) (by decide) (by decide)
    · exact (mod_in (by decide)).1
    · exact Int.lt_trans (mod_in (by decide)).2 (by decide)
  have go : ∀ cell : Int, wr__law_pot_2 (endsOf [.fro (.arg ns), .fro (.int k)] Q) [.fro (.arg ns), .fro (.int k), .fro (.int cell), .nil] := fun cell => by
    unfold wr__law_pot_2
    walk_at "dl"
    have h10 : (0 : Int) < (10 ^ Int.toNat 60) ^ Int.toNat 5 := by decide +kernel
    have h11 : (10 ^ Int.toNat 60 : Int) ^ Int.toNat 5 < 2 ^ 1000 := by decide +kernel
    have hx := mod_in (a := if cell < 0 then -cell else cell) h10
    refine ⟨.inl ⟨by decide, by decide, by decide⟩, powB 200 (by decide +kernel) (by decide) (by decide), h10, .inl ⟨by decide, by decide, by decide⟩, ?_, fin cell _ (Int.mul_nonneg hx.1 (bit01 _).1)⟩
    exact mulW 1000 62 hx.1 (bit01 _).1 (Int.lt_trans hx.2 h11) (bit01 _).2 (by decide) (by decide) (by decide)
  unfold w__law_pot
  walk_at "dl"
  by_cases hlt : k < ns.length
  · rw [if_pos (decide_eq_true hlt)]
    obtain ⟨i, rfl⟩ := Int.eq_ofNat_of_zero_le hk
    have hi : i < ns.length := by omega
    have e : atI ns (i : Int) = some ns[i] := atI_nat (List.getElem?_eq_getElem hi)
    rw [e]
    exact go _
  · rw [if_neg (by rw [decide_eq_false hlt]; exact Bool.false_ne_true)]
    exact ⟨mulW 62 62 (by decide) hk (by decide) (by omega) (by decide) (by decide) (by decide), go _⟩
theorem ok__law_draw (args : List Dl.Slot) (Q : Dl.Slot → List Dl.Slot → Prop) (hl : args.length = 2) (h : C__law_draw args Q) : noOwn args ∧ w__law_draw (endsOf args Q) (args ++ List.replicate (5 - 2) .nil) := by
  obtain ⟨n, o, m, rfl, ⟨a, b, c, rfl, ha, hb, hb2, hc, hcn⟩, hn, hm, hm2, hq⟩ := h
  refine ⟨noOwnT2, ?_⟩
  generalize hK : endsOf [.own true (O.lst [D.int a, D.int b, D.int c]), .fro (.int m)] Q = KD
  have hret : ∀ (r : Int) (o' : O) (x2 x3 x4 : Dl.Slot), 0 ≤ r → r < m → Pot (n + 1) o' → KD.rt (.fro (.int r)) [.own true o', .fro (.int m), x2, x3, x4] := fun r o' x2 x3 x4 h0 h1 hp => by
    subst hK
    exact hq r o' h0 h1 hp
  clear hK hq
  have a3 : ∀ (c made : Int) (x2 x3 : Dl.Slot), 0 ≤ c → c ≤ n + 1 → 0 ≤ made → made < 2 ^ 62 → wr__law_draw_3 KD [.own true (.lst [.int a, .int b, .int c]), .fro (.int m), x2, x3, .fro (.int made)] := fun c made x2 x3 hc hcn h0 h1 => by
    unfold wr__law_draw_3
    walk_at "dl"
    have hx := mod_in (a := made / 89) hm
    exact ⟨div_W (by decide) (by decide), hm, hret _ _ _ _ _ hx.1 hx.2 ⟨_, _, _, rfl, ha, hb, hb2, hc, hcn⟩⟩
  have a4 : ∀ (c made : Int) (x2 x3 : Dl.Slot), 0 ≤ c → c ≤ n + 1 → 0 ≤ made → made < 2 ^ 62 → wr__law_draw_4 KD [.own true (.lst [.int a, .int b, .int c]), .fro (.int m), x2, x3, .fro (.int made)] := fun c made x2 x3 hc hcn h0 h1 => by
    unfold wr__law_draw_4
    walk_at "dl"
    have hx := mod_in (a := made) (m := 10007) (by decide)
    refine ⟨by decide, mulW 62 62 (by decide) hc (by decide) (by omega) (by decide) (by decide) (by decide), mulW 62 62 h0 (by omega) h1 (by omega) (by decide) (by decide) (by decide), by decide, a3 c _ _ _ hc hcn (mod_in (by decide)).1 (Int.lt_trans (mod_in (by decide)).2 (by decide))⟩
  have a5 : ∀ (c p : Int), 0 ≤ c → c ≤ n + 1 → 0 < p → p < 2 ^ 62 → wr__law_draw_5 KD [.own true (.lst [.int a, .int b, .int c]), .fro (.int m), .nil, .fro (.int p), .nil] := fun c p hc hcn h0 h1 => by
    unfold wr__law_draw_5
    walk_at "dl"
    have hs := sq_le (n := 8000001) hc (by omega)
    have e : 99991 * c * c = 99991 * (c * c) := Int.mul_assoc _ _ _
    have hx := mod_in (a := (b + 99991 * c * c + 61) ^ Int.toNat 3) h0
    refine ⟨mulW 62 62 (by decide) hc (by decide) (by omega) (by decide) (by decide) (by decide), mulW 62 62 (by omega) hc (by omega) (by omega) (by decide) (by decide) (by decide), .inl ⟨by decide, by decide, ?_⟩, h0, a4 c _ _ _ hc hcn hx.1 (Int.lt_trans hx.2 h1)⟩
    rw [e]
    exact small (a := 64) (by omega) (by omega)
  have a6 : ∀ (c : Int), 0 ≤ c → c ≤ n + 1 → wr__law_draw_6 KD [.own true (.lst [.int a, .int b, .int c]), .fro (.int m), .nil, .nil, .nil] := fun c hc hcn => by
    unfold wr__law_draw_6
    walk_at "dl"
    have hx := mod_in (a := c) (m := 5) (by decide)
    refine ⟨by decide, by decide, ?_⟩
    have five : ∀ r : Int, 0 ≤ r → r < 5 → ∃ p : Int, atI [D.int 2147483647, .int 2147483629, .int 2147483587, .int 2147483579, .int 2147483563] r = some (.int p) ∧ 0 < p ∧ p < 2 ^ 62 := fun r h0 h1 => by
      obtain ⟨i, rfl⟩ := Int.eq_ofNat_of_zero_le h0
      have h : i < 5 := by omega
      match i, h with
      | 0, _ => exact ⟨_, rfl, by decide, by decide⟩
      | 1, _ => exact ⟨_, rfl, by decide, by decide⟩
      | 2, _ => exact ⟨_, rfl, by decide, by decide⟩
      | 3, _ => exact ⟨_, rfl, by decide, by decide⟩
      | 4, _ => exact ⟨_, rfl, by decide, by decide⟩
    obtain ⟨p, e, h1, h2⟩ := five (c % 5) hx.1 hx.2
    rw [e]
    exact a5 c p hc hcn h1 h2
  unfold w__law_draw
  walk_at "dl"
  by_cases hlt : 0 < a
  · rw [if_pos (decide_eq_true hlt)]
    refine ⟨hm, ?_⟩
    unfold wr__law_draw_2
    walk_at "dl"
    refine ⟨div_W hm hm2, ⟨_, _, rfl⟩, ?_⟩
    unfold wr__law_draw_1
    walk_at "dl"
    have hx := mod_in (a := a) hm
    exact hret _ _ _ _ _ hx.1 hx.2 ⟨_, _, _, rfl, Int.ediv_nonneg ha (by omega), hb, hb2, hc, by omega⟩
  · rw [if_neg (by rw [decide_eq_false hlt]; exact Bool.false_ne_true)]
    exact bump (a6 (c + 1) (by omega) (by omega))
theorem ok__law_any (args : List Dl.Slot) (Q : Dl.Slot → List Dl.Slot → Prop) (hl : args.length = 2) (h : C__law_any args Q) : noOwn args ∧ w__law_any (endsOf args Q) (args ++ List.replicate (2 - 2) .nil) := by
  obtain ⟨n, o, d, ds, rfl, hd, hp, hn, hne, hlen, hq⟩ := h
  refine ⟨noOwnT2, ?_⟩
  have hpos : 0 < ds.length := List.length_pos_iff.mpr hne
  unfold w__law_any
  rcases hd with rfl | rfl <;> (
    walk_at "dl"
    refine ⟨⟨_, _, rfl⟩, n, o, _, rfl, hp, hn, by omega, by omega, fun r o' h0 h1 hp' => ?_⟩
    obtain ⟨x, e, hx⟩ := atI_mem h0 h1
    walk_at "dl"
    rw [e]
    exact hq x o' hx hp')
end Lw
namespace Lw
open PySem L2 Dl Rs
local macro_rules | `(tactic| walk_at "dl") => `(tactic| simp (config := { maxSteps := 400000 }) only [wSeq, wIfS, wAnd, wOr, wNot, wRet, wDrop, wNext, wBrk, wCnt, wAndV, wOrV, wNotV, wB, wIf, wCB, wArgs, wVar, wC, wTup, wLst, wOp, wChain, wNeg, wSl, wP, wNoP, wSet, wPar, wAsg, wCall, wCallP, wCallN, wApp, wExt, wMt, gApp, gExt, wSetIx, wSeqI, wRng1, wRng2, wZip, wEnum, wFor, withL, lookL, lookD, with2, frz, frzL, prep, put, notLent, kindO, gTp, gNms, gNm, O.d, itemsOf, leave, endsOf, outsOf, clean, wYes,
    gI, gIC, Dl.gSub, gFdiv, gMod, gPow, gLt, gLe, gGt, gGe, gAdd, gMul, gIsN, gNotN, Dl.isNon, gIx, gSl, gLen, gAbs, gInt1, gMax2, gMin2, gTuple, gList, gIsi, atI_0, atI_1, atI_2, atI_m1, ixN_30, ixN_32,
    List.getElem?_cons_zero, List.getElem?_cons_succ, List.set_cons_zero, List.set_cons_succ, List.cons_append, List.nil_append, List.append_nil, List.replicate, List.length_cons, List.length_nil, List.map_cons, List.map_nil, Nat.reduceAdd, Nat.reduceSub, Nat.add_one_sub_one,
    true_and, and_true, if_true, if_false, Bool.false_eq_true, Bool.not_true, Bool.not_false, reduceIte, ite_true, ite_false])
def wr__law_spans_1 : WS := (wSet 6 (wOp gAdd (wOp gAdd (wVar 8) (wC (.int 2))) (wCallP C__law_any 0 [(wLst [(wC (.int 0)), (wC (.int 0)), (wC (.int 1)), (wC (.int 3)), (wVar 4)])])))
def wr__law_spans_2 : WS := (wIfS (wB (wOp gLe (wVar 8) (wVar 3))) (wSeq (wDrop (wApp 5 (wTup [(wVar 6), (wVar 8)])))
  wr__law_spans_1) wNext)
def wb__law_spans_3 : WS := (wSeq (wSet 8 (wOp gAdd (wVar 6) (wCallP C__law_any 0 [(wLst [(wC (.int 0)), (wC (.int 0)), (wC (.int 1)), (wC (.int 2)), (wC (.int 5)), (wVar 4)])])))
  wr__law_spans_2)
def wr__law_spans_4 : WS := (wRet (wCB gTuple [(wVar 5)]))
def wr__law_spans_5 : WS := (wSeq (wFor (wRng1 [(wCallP C__law_draw 0 [(wOp gAdd (wVar 1) (wC (.int 1)))])]) (gNm 7) wb__law_spans_3)
  wr__law_spans_4)
def wr__law_spans_6 : WS := (wSeq (wPar 5 6 (wLst []) (wOp gAdd (wVar 2) (wCallP C__law_draw 0 [(wOp gAdd (wC (.int 1)) (wOp gFdiv (wOp gSub (wVar 3) (wVar 2)) (wC (.int 2))))])))
  wr__law_spans_5)
def w__law_spans : WS := (wSeq (wSet 4 (wOp gFdiv (wOp gSub (wVar 3) (wVar 2)) (wC (.int 9))))
  wr__law_spans_6)
theorem loop_spans (KD : DEnds) (lo hi wide : Int) (hw : 0 ≤ wide) (most : D) : ∀ (m : Nat) (n : Int) (o : O) (fs : RS) (here : Int) (x7 x8 : Dl.Slot) (i : Int), Pot n o → n + 2 * m < 8000000 → Canon fs → Within lo hi fs → (∀ p ∈ fs, p.2 + 1 < here) → lo ≤ here → fs.length + m ≤ 1000 → nilOr x7 → nilOr x8 →
    (∀ (fs' : RS) (o' : O) (here' : Int) (x7 x8 : Dl.Slot), Canon fs' → Within lo hi fs' → fs'.length ≤ fs.length + m → Pot (n + 2 * m) o' → nilOr x7 → nilOr x8 → KD.nx [.own true o', .fro most, .fro (.int lo), .fro (.int hi), .fro (.int wide), .own false (.lst (fs'.map pairD)), .fro (.int here'), x7, x8]) →
    loop (gNm 7) wb__law_spans_3 KD (rangeD i m) [.own true o, .fro most, .fro (.int lo), .fro (.int hi), .fro (.int wide), .own false (.lst (fs.map pairD)), .fro (.int here), x7, x8]
  | 0, n, o, fs, here, x7, x8, i, hp, _, c, hin, _, _, _, n7, n8, hk => hk fs o here x7 x8 c hin (Nat.le_refl _) (hp.mono (by omega)) n7 n8
  | m + 1, n, o, fs, here, x7, x8, i, hp, hn, c, hin, hg, hlo, hlen, n7, n8, hk => by
    rw [rangeD_succ, loop_cons]
    refine ⟨notLent_nilOr rfl n7, ?_⟩
    have ih := fun (n' : Int) (o' : O) (fs' : RS) (here' : Int) (e' : Int) (hp' : Pot n' o') (hn' : n' ≤ n + 2) (c' : Canon fs') (hin' : Within lo hi fs') (hg' : ∀ p ∈ fs', p.2 + 1 < here') (hlo' : lo ≤ here') (hl' : fs'.length ≤ fs.length + 1) =>
      loop_spans KD lo hi wide hw most m n' o' fs' here' (.fro (.int i)) (.fro (.int e')) (i + 1) hp' (by omega) c' hin' hg' hlo' (by omega) (.inr ⟨_, rfl⟩) (.inr ⟨_, rfl⟩) fun fs2 o2 h2 y7 y8 c2 in2 l2 p2 m7 m8 => hk fs2 o2 h2 y7 y8 c2 in2 (by omega) (p2.mono (by omega)) m7 m8
    generalize hL : loop (gNm 7) wb__law_spans_3 KD (rangeD (i + 1) m) = L at ih ⊢
    generalize hK : (⟨L, KD.rt, KD.nx, L⟩ : DEnds) = K2
    have hKn : K2.nx = L := by subst hK; rfl
    unfold wb__law_spans_3
    walk_at "dl"
    refine ⟨⟨_, _, rfl⟩, by decide, n, o, _, [.int 0, .int 0, .int 1, .int 2, .int 5, .int wide], rfl, .inl rfl, hp, by omega, by simp, show 6 < 1000000 by decide, fun r o1 hr hp1 => ?_⟩
    obtain ⟨z, rfl, hz⟩ : ∃ z : Int, r = .int z ∧ 0 ≤ z := by
      simp only [List.mem_cons, List.not_mem_nil, or_false] at hr
      rcases hr with rfl | rfl | rfl | rfl | rfl | rfl
      · exact ⟨_, rfl, by decide⟩
      · exact ⟨_, rfl, by decide⟩
      · exact ⟨_, rfl, by decide⟩
      · exact ⟨_, rfl, by decide⟩
      · exact ⟨_, rfl, by decide⟩
      · exact ⟨_, rfl, hw⟩
    walk_at "dl"
    refine ⟨by rcases n8 with rfl | ⟨_, rfl⟩ <;> trivial, ?_⟩
    unfold wr__law_spans_2
    walk_at "dl"
    by_cases hle : here + z ≤ hi
    · rw [if_pos (decide_eq_true hle)]
      refine ⟨⟨_, _, rfl, rfl⟩, by decide, by rw [List.length_map]; exact big' _ (by omega), ?_⟩
      unfold wr__law_spans_1
      walk_at "dl"
      refine ⟨⟨_, _, rfl⟩, by decide, n + 1, o1, _, [.int 0, .int 0, .int 1, .int 3, .int wide], rfl, .inl rfl, hp1, by omega, by simp, show 5 < 1000000 by decide, fun r o2 hr hp2 => ?_⟩
      obtain ⟨y, rfl, hy⟩ : ∃ z : Int, r = .int z ∧ 0 ≤ z := by
        simp only [List.mem_cons, List.not_mem_nil, or_false] at hr
        rcases hr with rfl | rfl | rfl | rfl | rfl
        · exact ⟨_, rfl, by decide⟩
        · exact ⟨_, rfl, by decide⟩
        · exact ⟨_, rfl, by decide⟩
        · exact ⟨_, rfl, by decide⟩
        · exact ⟨_, rfl, hw⟩
      walk_at "dl"
      have em : fs.map pairD ++ [D.tup [D.int here, D.int (here + z)]] = (fs ++ [(here, here + z)]).map pairD := by rw [List.map_append]; rfl
      rw [em, hKn]
      refine ih (n + 2) o2 _ _ _ (hp2.mono (by omega)) (Int.le_refl _) (canon_snoc c (show here ≤ here + z by omega) fun q hq => hg q hq) (fun p hp' => ?_) (fun p hp' => ?_) (by omega) (by rw [List.length_append, List.length_singleton]; omega)
      · rcases List.mem_append.mp hp' with h | h
        · exact hin p h
        · rw [List.mem_singleton.mp h]
          exact ⟨hlo, hle⟩
      · rcases List.mem_append.mp hp' with h | h
        · have := hg p h
          omega
        · rw [List.mem_singleton.mp h]
          show here + z + 1 < here + z + 2 + y
          omega
    · rw [if_neg (by rw [decide_eq_false hle]; exact Bool.false_ne_true), hKn]
      exact ih (n + 1) o1 fs here _ hp1 (by omega) c hin hg hlo (by omega)
theorem ok__law_spans (args : List Dl.Slot) (Q : Dl.Slot → List Dl.Slot → Prop) (hl : args.length = 4) (h : C__law_spans args Q) : noOwn args ∧ w__law_spans (endsOf args Q) (args ++ List.replicate (9 - 4) .nil) := by
  obtain ⟨n, o, most, lo, hi, rfl, hp, hn, hm, hle, hlo, hhi, hq⟩ := h
  refine ⟨noOwnT4, ?_⟩
  generalize hK : endsOf [.own true o, .fro (.int most), .fro (.int lo), .fro (.int hi)] Q = KD
  have hret : ∀ (rs : RS) (o' : O) (x4 x5 x6 x7 x8 : Dl.Slot), Canon rs → rs.length ≤ most → Within lo hi rs → Pot (n + 2 * most + 2) o' → KD.rt (.fro (.tup (rs.map pairD))) [.own true o', .fro (.int most), .fro (.int lo), .fro (.int hi), x4, x5, x6, x7, x8] := fun rs o' x4 x5 x6 x7 x8 h0 h1 h2 hp => by
    subst hK
    exact hq rs o' h0 h1 h2 hp
  clear hK hq
  unfold w__law_spans
  walk_at "dl"
  refine ⟨div_W (by decide) (by decide), ?_⟩
  have hw : 0 ≤ (hi - lo) / 9 := Int.ediv_nonneg (by omega) (by decide)
  generalize (hi - lo) / 9 = wide at hw
  unfold wr__law_spans_6
  walk_at "dl"
  have h2 : 0 ≤ (hi - lo) / 2 := Int.ediv_nonneg (by omega) (by decide)
  have h3 : (hi - lo) / 2 ≤ hi - lo := Int.ediv_le_self _ (by omega)
  refine ⟨Nat.zero_le _, ⟨_, _, rfl⟩, div_W (by decide) (by decide), n, o, _, rfl, hp, by omega, by omega, by omega, fun r o1 hr0 hr1 hp1 => ?_⟩
  walk_at "dl"
  unfold wr__law_spans_5
  walk_at "dl"
  refine ⟨⟨_, _, rfl⟩, n + 1, o1, _, rfl, hp1, by omega, by omega, by omega, fun r2 o2 hs0 hs1 hp2 => ?_⟩
  walk_at "dl"
  refine ⟨by omega, by omega, ?_⟩
  refine loop_spans _ lo hi wide hw _ r2.toNat (n + 2) o2 [] _ .nil .nil 0 (hp2.mono (by omega)) (by omega) Canon.nil (fun p hp => (nomatch hp)) (fun p hp => (nomatch hp)) (by omega) (by simp only [List.length_nil]; omega) (.inl rfl) (.inl rfl) fun fs o' here' x7 x8 c hin hl' hp' n7 n8 => ?_
  dsimp only
  unfold wr__law_spans_4
  walk_at "dl"
  exact hret fs o' _ _ _ _ _ c (by simp only [List.length_nil] at hl'; omega) hin (hp'.mono (by omega))
end Lw
namespace Lw
open PySem L2 Dl Rs
theorem is_ranges_rs {rs : RS} {Q : Dl.Slot → List Dl.Slot → Prop} (c : Canon rs) (l : rs.length ≤ 1000000) (h : Q (.fro (.bl true)) [.fro (rsD rs)]) : C_is_ranges [.fro (rsD rs)] Q := by
  refine ⟨rsD rs, rfl, rfl, fun ds e => ?_, by rw [isRs_canon c]; exact h⟩
  cases e
  refine ⟨by rw [List.length_map]; exact l, fun d hd => ?_⟩
  obtain ⟨p, hp, rfl⟩ := List.mem_map.mp hd
  exact ⟨rfl, fun x y e => by cases e; exact ⟨rfl, rfl⟩⟩
def isFree : Dl.Slot → Prop
  | .own true _ => False
  | _ => True
theorem notLent_free {ρ : List Dl.Slot} {i : Nat} {s : Dl.Slot} (e : ρ[i]? = some s) (h : isFree s) : notLent ρ i := by
  unfold notLent; rw [e]
  cases s with
  | own b o => cases b with
    | true => exact h
    | false => trivial
  | _ => trivial
end Lw
namespace Lw
open PySem L2 Dl Rs
local macro_rules | `(tactic| walk_at "dl") => `(tactic| simp (config := { maxSteps := 400000 }) only [wSeq, wIfS, wAnd, wOr, wNot, wRet, wDrop, wNext, wBrk, wCnt, wAndV, wOrV, wNotV, wB, wIf, wCB, wArgs, wVar, wC, wTup, wLst, wOp, wChain, wNeg, wSl, wP, wNoP, wSet, wPar, wAsg, wCall, wCallP, wCallN, wApp, wExt, wMt, gApp, gExt, wSetIx, wSeqI, wRng1, wRng2, wZip, wEnum, wFor, withL, lookL, lookD, with2, frz, frzL, prep, put, notLent, kindO, gTp, gNms, gNm, O.d, itemsOf, leave, endsOf, outsOf, clean, wYes, wK, CE.s, wDct0, wDct1, wRev, wRev2, wPop, wSortSet, wParN, wTupAsg, prepL, putL, wEnum2, wCallK, perm, gIsB, gRepr, List.getD_cons_zero, List.getD_cons_succ,
    gI, gIC, Dl.gSub, gFdiv, gMod, gPow, gLt, gLe, gGt, gGe, gAdd, gMul, gIsN, gNotN, Dl.isNon, gIx, gSl, gLen, gAbs, gInt1, gMax2, gMin2, gTuple, gList, gIsi, atI_0, atI_1, atI_2, atI_m1, ixN_30, ixN_32,
    List.getElem?_cons_zero, List.getElem?_cons_succ, List.set_cons_zero, List.set_cons_succ, List.cons_append, List.nil_append, List.append_nil, List.replicate, List.length_cons, List.length_nil, List.map_cons, List.map_nil, Nat.reduceAdd, Nat.reduceSub, Nat.add_one_sub_one,
    true_and, and_true, if_true, if_false, Bool.false_eq_true, Bool.not_true, Bool.not_false, reduceIte, ite_true, ite_false])
local macro_rules | `(tactic| walk_at "lb") => `(tactic| simp (config := { maxSteps := 400000 }) only [lcBody, wipeD, back, Option.getD_some, wSeq, wIfS, wAnd, wOr, wNot, wRet, wDrop, wNext, wBrk, wCnt, wAndV, wOrV, wNotV, wB, wIf, wCB, wArgs, wVar, wC, wTup, wLst, wOp, wChain, wNeg, wSl, wP, wNoP, wSet, wPar, wAsg, wCall, wCallP, wCallN, wApp, wExt, wMt, gApp, gExt, wSetIx, wSeqI, wRng1, wRng2, wZip, wEnum, wFor, withL, lookL, lookD, with2, frz, frzL, prep, put, notLent, kindO, gTp, gNms, gNm, O.d, itemsOf, leave, endsOf, outsOf, clean, wYes, wK, CE.s, wDct0, wDct1, wRev, wRev2, wPop, wSortSet, wParN, wTupAsg, prepL, putL, wEnum2, wCallK, perm, gIsB, gRepr, List.getD_cons_zero, List.getD_cons_succ,
    gI, gIC, Dl.gSub, gFdiv, gMod, gPow, gLt, gLe, gGt, gGe, gAdd, gMul, gIsN, gNotN, Dl.isNon, gIx, gSl, gLen, gAbs, gInt1, gMax2, gMin2, gTuple, gList, gIsi, atI_0, atI_1, atI_2, atI_m1, ixN_30, ixN_32,
    List.getElem?_cons_zero, List.getElem?_cons_succ, List.set_cons_zero, List.set_cons_succ, List.cons_append, List.nil_append, List.append_nil, List.replicate, List.length_cons, List.length_nil, List.map_cons, List.map_nil, Nat.reduceAdd, Nat.reduceSub, Nat.add_one_sub_one,
    true_and, and_true, if_true, if_false, Bool.false_eq_true, Bool.not_true, Bool.not_false, reduceIte, ite_true, ite_false])
def bucketOf (cuts : List Int) (v : Int) : Nat := (cuts.filter fun c => decide (c ≤ v)).length
def tupI (cs : List Int) : D := .tup (cs.map .int)
def knownOf (vs : List (Option Int)) : List Int := vs.filterMap id
def bkt (cuts known : List Int) (b : Nat) : Int × Int := (((known.filter fun v => decide (bucketOf cuts v = b)).length : Nat), (known.filter fun v => decide (bucketOf cuts v = b)).sum)
def leastOf : List Int → Int
  | [] => 0
  | [x] => x
  | x :: y :: r => min x (leastOf (y :: r))
def mostOf : List Int → Int
  | [] => 0
  | [x] => x
  | x :: y :: r => max x (mostOf (y :: r))
def endD (f : List Int → Int) : List Int → D
  | [] => .non
  | ns => .int (f ns)
def cfD (col : D) (cuts : List Int) (vs : List (Option Int)) : D :=
  .tup [col, tupI cuts, .int ((vs.length : Int) - (knownOf vs).length), endD leastOf (knownOf vs), endD mostOf (knownOf vs), .tup ((List.range (cuts.length + 1)).map fun b => pairD (bkt cuts (knownOf vs) b))]
theorem all_map_id {α : Type} (f : α → Bool) (l : List α) : (l.map f).all id = l.all f := by rw [List.all_map]; rfl
end Lw
namespace Lw
open PySem L2 Dl Rs
local macro_rules | `(tactic| walk_at "dl") => `(tactic| simp (config := { maxSteps := 400000 }) only [wSeq, wIfS, wAnd, wOr, wNot, wRet, wDrop, wNext, wBrk, wCnt, wAndV, wOrV, wNotV, wB, wIf, wCB, wArgs, wVar, wC, wTup, wLst, wOp, wChain, wNeg, wSl, wP, wNoP, wSet, wPar, wAsg, wCall, wCallP, wCallN, wApp, wExt, wMt, gApp, gExt, wSetIx, wSeqI, wRng1, wRng2, wZip, wEnum, wFor, withL, lookL, lookD, with2, frz, frzL, prep, put, notLent, kindO, gTp, gNms, gNm, O.d, itemsOf, leave, endsOf, outsOf, clean, wYes, wK, CE.s, wDct0, wDct1, wRev, wRev2, wPop, wSortSet, wParN, wTupAsg, prepL, putL, wEnum2, wCallK, perm, gIsB, gRepr, List.getD_cons_zero, List.getD_cons_succ,
    gI, gIC, Dl.gSub, gFdiv, gMod, gPow, gLt, gLe, gGt, gGe, gAdd, gMul, gIsN, gNotN, Dl.isNon, gIx, gSl, gLen, gAbs, gInt1, gMax2, gMin2, gTuple, gList, gIsi, atI_0, atI_1, atI_2, atI_m1, ixN_30, ixN_32,
    List.getElem?_cons_zero, List.getElem?_cons_succ, List.set_cons_zero, List.set_cons_succ, List.cons_append, List.nil_append, List.append_nil, List.replicate, List.length_cons, List.length_nil, List.map_cons, List.map_nil, Nat.reduceAdd, Nat.reduceSub, Nat.add_one_sub_one,
    true_and, and_true, if_true, if_false, Bool.false_eq_true, Bool.not_true, Bool.not_false, reduceIte, ite_true, ite_false])
local macro_rules | `(tactic| walk_at "lb") => `(tactic| simp (config := { maxSteps := 400000 }) only [lcBody, wipeD, back, Option.getD_some, wSeq, wIfS, wAnd, wOr, wNot, wRet, wDrop, wNext, wBrk, wCnt, wAndV, wOrV, wNotV, wB, wIf, wCB, wArgs, wVar, wC, wTup, wLst, wOp, wChain, wNeg, wSl, wP, wNoP, wSet, wPar, wAsg, wCall, wCallP, wCallN, wApp, wExt, wMt, gApp, gExt, wSetIx, wSeqI, wRng1, wRng2, wZip, wEnum, wFor, withL, lookL, lookD, with2, frz, frzL, prep, put, notLent, kindO, gTp, gNms, gNm, O.d, itemsOf, leave, endsOf, outsOf, clean, wYes, wK, CE.s, wDct0, wDct1, wRev, wRev2, wPop, wSortSet, wParN, wTupAsg, prepL, putL, wEnum2, wCallK, perm, gIsB, gRepr, List.getD_cons_zero, List.getD_cons_succ,
    gI, gIC, Dl.gSub, gFdiv, gMod, gPow, gLt, gLe, gGt, gGe, gAdd, gMul, gIsN, gNotN, Dl.isNon, gIx, gSl, gLen, gAbs, gInt1, gMax2, gMin2, gTuple, gList, gIsi, atI_0, atI_1, atI_2, atI_m1, ixN_30, ixN_32,
    List.getElem?_cons_zero, List.getElem?_cons_succ, List.set_cons_zero, List.set_cons_succ, List.cons_append, List.nil_append, List.append_nil, List.replicate, List.length_cons, List.length_nil, List.map_cons, List.map_nil, Nat.reduceAdd, Nat.reduceSub, Nat.add_one_sub_one,
    true_and, and_true, if_true, if_false, Bool.false_eq_true, Bool.not_true, Bool.not_false, reduceIte, ite_true, ite_false])
end Lw
namespace Lw
open PySem L2 Dl Rs
local macro_rules | `(tactic| walk_at "dl") => `(tactic| simp (config := { maxSteps := 400000 }) only [wSeq, wIfS, wAnd, wOr, wNot, wRet, wDrop, wNext, wBrk, wCnt, wAndV, wOrV, wNotV, wB, wIf, wCB, wArgs, wVar, wC, wTup, wLst, wOp, wChain, wNeg, wSl, wP, wNoP, wSet, wPar, wAsg, wCall, wCallP, wCallN, wApp, wExt, wMt, gApp, gExt, wSetIx, wSeqI, wRng1, wRng2, wZip, wEnum, wFor, withL, lookL, lookD, with2, frz, frzL, prep, put, notLent, kindO, gTp, gNms, gNm, O.d, itemsOf, leave, endsOf, outsOf, clean, wYes, wK, CE.s, wDct0, wDct1, wRev, wRev2, wPop, wSortSet, wParN, wTupAsg, prepL, putL, wEnum2, wCallK, perm, gIsB, gRepr, List.getD_cons_zero, List.getD_cons_succ,
    gI, gIC, Dl.gSub, gFdiv, gMod, gPow, gLt, gLe, gGt, gGe, gAdd, gMul, gIsN, gNotN, Dl.isNon, gIx, gSl, gLen, gAbs, gInt1, gMax2, gMin2, gTuple, gList, gIsi, atI_0, atI_1, atI_2, atI_m1, ixN_30, ixN_32,
    List.getElem?_cons_zero, List.getElem?_cons_succ, List.set_cons_zero, List.set_cons_succ, List.cons_append, List.nil_append, List.append_nil, List.replicate, List.length_cons, List.length_nil, List.map_cons, List.map_nil, Nat.reduceAdd, Nat.reduceSub, Nat.add_one_sub_one,
    true_and, and_true, if_true, if_false, Bool.false_eq_true, Bool.not_true, Bool.not_false, reduceIte, ite_true, ite_false])
local macro_rules | `(tactic| walk_at "lb") => `(tactic| simp (config := { maxSteps := 400000 }) only [lcBody, wipeD, back, Option.getD_some, wSeq, wIfS, wAnd, wOr, wNot, wRet, wDrop, wNext, wBrk, wCnt, wAndV, wOrV, wNotV, wB, wIf, wCB, wArgs, wVar, wC, wTup, wLst, wOp, wChain, wNeg, wSl, wP, wNoP, wSet, wPar, wAsg, wCall, wCallP, wCallN, wApp, wExt, wMt, gApp, gExt, wSetIx, wSeqI, wRng1, wRng2, wZip, wEnum, wFor, withL, lookL, lookD, with2, frz, frzL, prep, put, notLent, kindO, gTp, gNms, gNm, O.d, itemsOf, leave, endsOf, outsOf, clean, wYes, wK, CE.s, wDct0, wDct1, wRev, wRev2, wPop, wSortSet, wParN, wTupAsg, prepL, putL, wEnum2, wCallK, perm, gIsB, gRepr, List.getD_cons_zero, List.getD_cons_succ,
    gI, gIC, Dl.gSub, gFdiv, gMod, gPow, gLt, gLe, gGt, gGe, gAdd, gMul, gIsN, gNotN, Dl.isNon, gIx, gSl, gLen, gAbs, gInt1, gMax2, gMin2, gTuple, gList, gIsi, atI_0, atI_1, atI_2, atI_m1, ixN_30, ixN_32,
    List.getElem?_cons_zero, List.getElem?_cons_succ, List.set_cons_zero, List.set_cons_succ, List.cons_append, List.nil_append, List.append_nil, List.replicate, List.length_cons, List.length_nil, List.map_cons, List.map_nil, Nat.reduceAdd, Nat.reduceSub, Nat.add_one_sub_one,
    true_and, and_true, if_true, if_false, Bool.false_eq_true, Bool.not_true, Bool.not_false, reduceIte, ite_true, ite_false])
structure RowsOk (cols : List D) (cuts : List (List Int)) (rs : List (List (Option Int))) : Prop where
  lc : cols.length ≤ 100
  eq : cuts.length = cols.length
  lk : ∀ c ∈ cuts, c.length ≤ 1000
  lr : rs.length ≤ 1000
  wd : ∀ r ∈ rs, r.length = cols.length
end Lw
namespace Lw
open PySem L2 Dl Rs
local macro_rules | `(tactic| walk_at "dl") => `(tactic| simp (config := { maxSteps := 400000 }) only [wSeq, wIfS, wAnd, wOr, wNot, wRet, wDrop, wNext, wBrk, wCnt, wAndV, wOrV, wNotV, wB, wIf, wCB, wArgs, wVar, wC, wTup, wLst, wOp, wChain, wNeg, wSl, wP, wNoP, wSet, wPar, wAsg, wCall, wCallP, wCallN, wApp, wExt, wMt, gApp, gExt, wSetIx, wSeqI, wRng1, wRng2, wZip, wEnum, wFor, withL, lookL, lookD, with2, frz, frzL, prep, put, notLent, kindO, gTp, gNms, gNm, O.d, itemsOf, leave, endsOf, outsOf, clean, wYes, wK, CE.s, wDct0, wDct1, wRev, wRev2, wPop, wSortSet, wParN, wTupAsg, prepL, putL, wEnum2, wCallK, perm, gIsB, gRepr, List.getD_cons_zero, List.getD_cons_succ,
    gI, gIC, Dl.gSub, gFdiv, gMod, gPow, gLt, gLe, gGt, gGe, gAdd, gMul, gIsN, gNotN, Dl.isNon, gIx, gSl, gLen, gAbs, gInt1, gMax2, gMin2, gTuple, gList, gIsi, atI_0, atI_1, atI_2, atI_m1, ixN_30, ixN_32,
    List.getElem?_cons_zero, List.getElem?_cons_succ, List.set_cons_zero, List.set_cons_succ, List.cons_append, List.nil_append, List.append_nil, List.replicate, List.length_cons, List.length_nil, List.map_cons, List.map_nil, Nat.reduceAdd, Nat.reduceSub, Nat.add_one_sub_one,
    true_and, and_true, if_true, if_false, Bool.false_eq_true, Bool.not_true, Bool.not_false, reduceIte, ite_true, ite_false])
local macro_rules | `(tactic| walk_at "lb") => `(tactic| simp (config := { maxSteps := 400000 }) only [lcBody, wipeD, back, Option.getD_some, wSeq, wIfS, wAnd, wOr, wNot, wRet, wDrop, wNext, wBrk, wCnt, wAndV, wOrV, wNotV, wB, wIf, wCB, wArgs, wVar, wC, wTup, wLst, wOp, wChain, wNeg, wSl, wP, wNoP, wSet, wPar, wAsg, wCall, wCallP, wCallN, wApp, wExt, wMt, gApp, gExt, wSetIx, wSeqI, wRng1, wRng2, wZip, wEnum, wFor, withL, lookL, lookD, with2, frz, frzL, prep, put, notLent, kindO, gTp, gNms, gNm, O.d, itemsOf, leave, endsOf, outsOf, clean, wYes, wK, CE.s, wDct0, wDct1, wRev, wRev2, wPop, wSortSet, wParN, wTupAsg, prepL, putL, wEnum2, wCallK, perm, gIsB, gRepr, List.getD_cons_zero, List.getD_cons_succ,
    gI, gIC, Dl.gSub, gFdiv, gMod, gPow, gLt, gLe, gGt, gGe, gAdd, gMul, gIsN, gNotN, Dl.isNon, gIx, gSl, gLen, gAbs, gInt1, gMax2, gMin2, gTuple, gList, gIsi, atI_0, atI_1, atI_2, atI_m1, ixN_30, ixN_32,
    List.getElem?_cons_zero, List.getElem?_cons_succ, List.set_cons_zero, List.set_cons_succ, List.cons_append, List.nil_append, List.append_nil, List.replicate, List.length_cons, List.length_nil, List.map_cons, List.map_nil, Nat.reduceAdd, Nat.reduceSub, Nat.add_one_sub_one,
    true_and, and_true, if_true, if_false, Bool.false_eq_true, Bool.not_true, Bool.not_false, reduceIte, ite_true, ite_false])
def Sh (n : Nat) (d : D) : Prop := plainD d = true ∧ PyData.canLay0 (pyD d) = true ∧ (pyD d).depth ≤ n
theorem shL {n : Nat} : ∀ {ds : List D}, (∀ e ∈ ds, Sh n e) → plainL ds = true ∧ PyData.canLayAll0 (pyL ds) = true ∧ PyData.depthAll (pyL ds) ≤ n
  | [], _ => ⟨rfl, rfl, Nat.zero_le _⟩
  | d :: ds, h => by
    obtain ⟨a, b, c⟩ := shL fun e he => h e (List.mem_cons_of_mem _ he)
    obtain ⟨x, y, z⟩ := h d (by simp)
    refine ⟨by show (plainD d && plainL ds) = true; rw [x, a]; rfl, by show (PyData.canLay0 (pyD d) && PyData.canLayAll0 (pyL ds)) = true; rw [y, b]; rfl, ?_⟩
    show max (pyD d).depth (PyData.depthAll (pyL ds)) ≤ n
    omega
theorem Sh.mono {n m : Nat} {d : D} (h : Sh n d) (hm : n ≤ m) : Sh m d := ⟨h.1, h.2.1, Nat.le_trans h.2.2 hm⟩
theorem Sh.sh {n : Nat} {d : D} (h : Sh n d) (hn : n ≤ 64) : shD d := by
  refine ⟨h.1, ?_⟩
  unfold SeqAt.shaped
  rw [h.2.1, decide_eq_true (Nat.le_trans h.2.2 hn)]
  rfl
def AnyOk (d : D) : Prop := showD d = true ∧ ndD d ≤ 50000
theorem show_typed {d : D} (h : showD d = true) : typed d := by
  cases d with
  | raw v => cases h
  | arg ns => cases h
  | tix ys => cases h
  | obj c fs => cases h
  | exc c f v => cases h
  | fn f c q vs ds => cases h
  | _ => rfl
theorem showL_mem : ∀ {ds : List D}, showL ds = true → ∀ e ∈ ds, showD e = true
  | d :: ds, h, e, he => by
    unfold showL at h
    rw [Bool.and_eq_true] at h
    rcases List.mem_cons.mp he with rfl | he
    · exact h.1
    · exact showL_mem h.2 e he
theorem len_nd : ∀ ds : List D, ds.length ≤ ndL ds := fun ds => by
  induction ds with
  | nil => exact Nat.le_refl _
  | cons d ds ih =>
    have : 1 ≤ ndD d := by cases d <;> first | exact Nat.le_refl _ | (show 1 ≤ 1 + _; omega)
    show ds.length + 1 ≤ ndD d + ndL ds
    omega
theorem nd_mem : ∀ {ds : List D} {e : D}, e ∈ ds → ndD e ≤ ndL ds
  | d :: ds, e, he => by
    show ndD e ≤ ndD d + ndL ds
    rcases List.mem_cons.mp he with rfl | he
    · omega
    · have := nd_mem he; omega
theorem AnyOk.tup {ds : List D} (h : AnyOk (.tup ds)) : ds.length ≤ 50000 ∧ ∀ e ∈ ds, AnyOk e := by
  have h1 : 1 + ndL ds ≤ 50000 := h.2
  have hL : showL ds = true := by have := h.1; simpa [showD] using this
  have := len_nd ds
  exact ⟨by omega, fun e he => ⟨showL_mem hL e he, by have := nd_mem he; omega⟩⟩
theorem AnyOk.typed {d : D} (h : AnyOk d) : Lw.typed d := show_typed h.1
end Lw
namespace Lw
open PySem L2 Dl Rs
theorem loop_by {g : WG} {w : WS} {KD : DEnds} (I : List D → List Dl.Slot → Prop) (h0 : ∀ ρ, I [] ρ → KD.nx ρ)
    (h1 : ∀ d ds ρ (L : List Dl.Slot → Prop), I (d :: ds) ρ → (∀ ρ', I ds ρ' → L ρ') → g d ρ fun ρ1 => w { nx := L, ct := L, bk := KD.nx, rt := KD.rt } ρ1) :
    ∀ (ds : List D) (ρ : List Dl.Slot), I ds ρ → loop g w KD ds ρ
  | [], ρ, hi => h0 ρ hi
  | d :: ds, ρ, hi => h1 d ds ρ _ hi fun ρ' h' => loop_by I h0 h1 ds ρ' h'
theorem lcl_by {g : WG} {t : WT} {e : WE} {vs : List Nat} {Q : List D → List Dl.Slot → Prop} (I : List D → List D → List Dl.Slot → Prop) (h0 : ∀ acc ρ, I [] acc ρ → Q acc ρ)
    (h1 : ∀ d ds acc ρ (k1 : D → List Dl.Slot → Prop) (k0 : List Dl.Slot → Prop), I (d :: ds) acc ρ → (∀ x ρ', acc.length ≤ 16000000 → I ds (acc ++ [x]) ρ' → k1 x ρ') → (∀ ρ', I ds acc ρ' → k0 ρ') → g d (wipeD ρ vs) (lcBody t e ρ vs k1 k0)) :
    ∀ (ds acc : List D) (ρ : List Dl.Slot), I ds acc ρ → lcl g t e vs Q ds ρ acc
  | [], acc, ρ, hi => h0 acc ρ hi
  | d :: ds, acc, ρ, hi => h1 d ds acc ρ _ _ hi (fun x ρ' hz h' => ⟨Nat.lt_of_le_of_lt hz (by decide), lcl_by I h0 h1 ds (acc ++ [x]) ρ' h'⟩) fun ρ' h' => lcl_by I h0 h1 ds acc ρ' h'
theorem lc_map {wi : WI} {g : WG} {t : WT} {e : WE} {vs : List Nat} {Q : List D → List Dl.Slot → Prop} {ρ : List Dl.Slot} (f : D → D) (ds : List D) (hn : ds.length ≤ 16000000)
    (step : ∀ d ∈ ds, ∀ (k1 : D → List Dl.Slot → Prop) (k0 : List Dl.Slot → Prop), k1 (f d) ρ → g d (wipeD ρ vs) (lcBody t e ρ vs k1 k0)) (hq : Q (ds.map f) ρ) : lcl g t e vs Q ds ρ [] := by
  refine lcl_by (fun rest acc ρ' => ρ' = ρ ∧ ∃ done, ds = done ++ rest ∧ acc = done.map f) (fun acc ρ' ⟨e1, done, e2, e3⟩ => ?_) (fun d rest acc ρ' k1 k0 ⟨e1, done, e2, e3⟩ h1 h0 => ?_) ds [] ρ ⟨rfl, [], rfl, rfl⟩
  · subst e1; rw [List.append_nil] at e2; subst e2; subst e3; exact hq
  · subst e1
    refine step d (by rw [e2]; simp) k1 k0 (h1 _ _ ?_ ⟨rfl, done ++ [d], by rw [e2]; simp, by rw [e3]; simp⟩)
    have : ds.length = done.length + (rest.length + 1) := by rw [e2]; simp
    rw [e3, List.length_map]; omega
theorem outs_fro : ∀ (ds : List D) (ρ : List Dl.Slot), outsOf (ds.map .fro) ρ = ds.map .fro
  | [], _ => rfl
  | d :: ds, [] => by rw [List.map_cons]; show _ :: outsOf (ds.map .fro) [] = _; rw [outs_fro ds]
  | d :: ds, s :: ρ => by rw [List.map_cons]; show _ :: outsOf (ds.map .fro) ρ = _; rw [outs_fro ds]
theorem rtF (ds : List D) {Q : Dl.Slot → List Dl.Slot → Prop} {v : D} {ρ : List Dl.Slot} (h : Q (.fro v) (ds.map .fro)) : (endsOf (ds.map .fro) Q).rt (.fro v) ρ := by
  show Q (.fro v) (outsOf (ds.map .fro) ρ)
  rw [outs_fro]; exact h
theorem rtLV (ds : List D) {Q : Dl.Slot → List Dl.Slot → Prop} {u o o' : O} {i : Nat} {ρ : List Dl.Slot} (e : ρ[i]? = some (.own false u)) (h : Q (.own false u) (.own true o' :: ds.map .fro)) : (endsOf (.own true o :: ds.map .fro) Q).rt (.var (i + 1)) (.own true o' :: ρ) := by
  show (match ρ[i]? with
    | some (.own false v) => Q (.own false v) (outsOf (.own true o :: ds.map .fro) ((.own true o' :: ρ).set (i + 1) .nil))
    | some (.fro d) => Q (.fro d) (outsOf (.own true o :: ds.map .fro) (.own true o' :: ρ))
    | _ => False)
  rw [e]
  show Q (.own false u) (.own true o' :: outsOf (ds.map .fro) _)
  rw [outs_fro]; exact h
theorem loop_ix {g : WG} {w : WS} {KD : DEnds} (ds : List D) (I : Nat → List Dl.Slot → Prop) (h0 : ∀ ρ, I ds.length ρ → KD.nx ρ)
    (h1 : ∀ i d ρ (L : List Dl.Slot → Prop), ds[i]? = some d → I i ρ → (∀ ρ', I (i + 1) ρ' → L ρ') → g d ρ fun ρ1 => w { nx := L, ct := L, bk := KD.nx, rt := KD.rt } ρ1) (ρ : List Dl.Slot) (hi : I 0 ρ) : loop g w KD ds ρ := by
  refine loop_by (fun rest ρ => ∃ i, rest = ds.drop i ∧ i ≤ ds.length ∧ I i ρ) (fun ρ ⟨i, e, hl, h⟩ => ?_) (fun d rest ρ L ⟨i, e, hl, h⟩ hL => ?_) ds ρ ⟨0, rfl, Nat.zero_le _, hi⟩
  · have : ds.length ≤ i := by
      have := congrArg List.length e
      simp at this; omega
    exact h0 ρ (by rw [show ds.length = i by omega]; exact h)
  · have hd : ds[i]? = some d := by
      have h2 : (ds.drop i)[0]? = some d := by rw [← e]; rfl
      rw [List.getElem?_drop] at h2; exact h2
    have hr : rest = ds.drop (i + 1) := by
      have h2 := drop_cons hd
      rw [← e] at h2
      exact (List.cons.inj h2).2
    exact h1 i d ρ L hd h fun ρ' h' => hL ρ' ⟨i + 1, hr, (List.getElem?_eq_some_iff.mp hd).1, h'⟩
theorem range_at {lo : Int} {n i : Nat} {d : D} (e : (rangeD lo n)[i]? = some d) : i < n ∧ d = .int (lo + i) := by
  unfold rangeD at e
  rw [List.getElem?_map] at e
  cases q : (List.range n)[i]? with
  | none => rw [q] at e; cases e
  | some j =>
    rw [q] at e
    obtain ⟨h1, h2⟩ := List.getElem?_eq_some_iff.mp q
    rw [List.length_range] at h1
    rw [List.getElem_range] at h2
    subst h2
    cases e
    exact ⟨h1, rfl⟩
theorem rangeD_len (lo : Int) (n : Nat) : (rangeD lo n).length = n := by unfold rangeD; rw [List.length_map, List.length_range]
theorem loop_rng {g : WG} {w : WS} {KD : DEnds} (lo : Int) (n : Nat) (I : Nat → List Dl.Slot → Prop) (h0 : ∀ ρ, I n ρ → KD.nx ρ)
    (h1 : ∀ (i : Nat) ρ (L : List Dl.Slot → Prop), i < n → I i ρ → (∀ ρ', I (i + 1) ρ' → L ρ') → g (.int (lo + i)) ρ fun ρ1 => w { nx := L, ct := L, bk := KD.nx, rt := KD.rt } ρ1) (ρ : List Dl.Slot) (hi : I 0 ρ) : loop g w KD (rangeD lo n) ρ := by
  refine loop_ix (rangeD lo n) I (fun ρ h => h0 ρ (by rw [rangeD_len] at h; exact h)) (fun i d ρ L hd h hL => ?_) ρ hi
  obtain ⟨hi, rfl⟩ := range_at hd
  exact h1 i ρ L hi h hL
end Lw
namespace Lw
open PySem L2 Dl Rs
local macro_rules | `(tactic| walk_at "dl") => `(tactic| try simp (config := { maxSteps := 400000 }) only [lcBody, wipeD, back, Option.getD_some, wSeq, wIfS, wAnd, wOr, wNot, wRet, wDrop, wNext, wBrk, wCnt, wAndV, wOrV, wNotV, wB, wIf, wCB, wArgs, wVar, wC, wTup, wLst, wOp, wChain, wNeg, wSl, wP, wNoP, wSet, wPar, wAsg, wCall, wCallP, wCallN, wApp, wExt, wMt, gApp, gExt, wSetIx, wSeqI, wRng1, wRng2, wZip, wEnum, wFor, withL, lookL, lookD, with2, frz, frzL, prep, put, notLent, kindO, gTp, gNms, gNm, O.d, itemsOf, leave, endsOf, outsOf, clean, wYes, wK, CE.s, wDct0, wDct1, wRev, wRev2, wPop, wSortSet, wParN, wTupAsg, prepL, putL, wEnum2, wCallK, perm, gIsB, gRepr, List.getD_cons_zero, List.getD_cons_succ, wFg, wFgL, fgs, fg1, wFz, fzs, fz1, gTpG, gAllT, wTupS, wLstS, wArgsS, wLenSet, gIn_tup, gIn_lst, gNotIn_tup, gNotIn_lst, gEq_int, gNe_int, gEq_str, gNe_str,
    gI, gIC, Dl.gSub, gFdiv, gMod, gPow, gLt, gLe, gGt, gGe, gAdd, gMul, gIsN, gNotN, Dl.isNon, gIx, gSl, gLen, gAbs, gInt1, gMax2, gMin2, gTuple, gList, gIsi, atI_0, atI_1, atI_2, atI_m1, ixN_30, ixN_32,
    List.getElem?_cons_zero, List.getElem?_cons_succ, List.set_cons_zero, List.set_cons_succ, List.cons_append, List.nil_append, List.append_nil, List.replicate, List.length_cons, List.length_nil, List.map_cons, List.map_nil, Nat.reduceAdd, Nat.reduceSub, Nat.add_one_sub_one,
    true_and, and_true, if_true, if_false, Bool.false_eq_true, Bool.not_true, Bool.not_false, reduceIte, ite_true, ite_false])
abbrev k_SMALL : D := .str "abcdefghijklmnopqrstuvwxyz"
abbrev k_WORDS : D := .tup [.str "and", .str "or"]
abbrev k_MOST_LETTERS : D := .int 8
def smallB (c : Nat) : Bool := decide (c ∈ ("abcdefghijklmnopqrstuvwxyz" : Str).cps.toList)
def colB : D → Bool
  | .str x => (decide (1 ≤ (x.length : Int)) && decide ((x.length : Int) ≤ 8)) && (!inD (.str x) [.str "and", .str "or"] && x.cps.toList.all smallB)
  | _ => false
def C_is_column : WE := fun args Q => ∃ d, args = [.fro d] ∧ AnyOk d ∧ Q (.fro (.bl (colB d))) args
def w_is_column : WS := (wSeq (wIfS (wOr (wNot (wB (wCB gIsi [(wVar 0), (wC (.raw (.ty "str")))]))) (wOr (wNot (wB (wChain gLe gLe (wC (.int 1)) (wCB gLen [(wVar 0)]) (wC k_MOST_LETTERS)))) (wB (wOp gIn (wVar 0) (wC k_WORDS))))) (wRet (wC (.bl false))) wNext)
  (wRet (wCB gAll [(wLc (wSeqI (wVar 0)) (gNm 1) wYes (wOp gIn (wVar 1) (wC k_SMALL)) [1])])))
theorem AnyOk.str {x : Str} (h : AnyOk (.str x)) : x.length ≤ 50000 := by
  have h2 : 1 + x.cps.size ≤ 50000 := h.2
  show x.cps.size ≤ 50000
  omega
theorem boolsOf_smallB (cs : List Nat) : boolsOf (cs.map fun c => D.bl (smallB c)) = some (cs.map smallB) := boolsOf_map smallB cs
def signB : D → D
  | .str ⟨cs⟩ => .bl (smallB (cs.getD 0 0))
  | d => d
theorem ok_is_column (args : List Dl.Slot) (Q : Dl.Slot → List Dl.Slot → Prop) (hl : args.length = 1) (h : C_is_column args Q) : noOwn args ∧ w_is_column (endsOf args Q) (args ++ List.replicate (2 - 1) .nil) := by
  obtain ⟨d, rfl, ha, hq⟩ := h
  refine ⟨noOwn1 _, ?_⟩
  unfold w_is_column
  walk_at "dl"
  simp only [isD_str ha.typed]
  cases d with
  | str x =>
    simp only [isStrD]
    walk_at "dl"
    refine ⟨Nat.le_trans ha.str (by decide), ?_⟩
    have e : colB (.str x) = ((decide (1 ≤ (x.length : Int)) && decide ((x.length : Int) ≤ 8)) && (!inD (.str x) [.str "and", .str "or"] && x.cps.toList.all smallB)) := rfl
    rw [e] at hq
    cases h1 : decide (1 ≤ (x.length : Int)) with
    | false => rw [h1] at hq; exact hq
    | true =>
      rw [h1] at hq
      walk_at "dl"
      cases h2 : decide ((x.length : Int) ≤ 8) with
      | false => rw [h2] at hq; exact hq
      | true =>
        rw [h2] at hq
        walk_at "dl"
        refine ⟨rfl, rfl, ?_⟩
        cases h3 : inD (.str x) [.str "and", .str "or"] with
        | true => rw [h3] at hq; exact hq
        | false =>
          rw [h3] at hq
          unfold wLc
          walk_at "dl"
          refine lc_map (wi := wSeqI (wVar 0)) signB (signs x) ?_ (fun d hd k1 k0 hk => ?_) ?_
          · unfold signs; rw [List.length_map, Array.length_toList]; exact Nat.le_trans ha.str (by decide)
          · obtain ⟨c, _, rfl⟩ := List.mem_map.mp hd
            walk_at "dl"
            exact ⟨c, rfl, hk⟩
          · have e2 : (signs x).map signB = x.cps.toList.map fun c => D.bl (smallB c) := by
              unfold signs; rw [List.map_map]; rfl
            rw [e2]
            simp only [gAll, boolsOf_smallB, all_map_id]
            exact hq
  | _ => exact hq
theorem AnyOk.mem {ds : List D} {e : D} (h : AnyOk (.tup ds)) (he : e ∈ ds) : AnyOk e := h.tup.2 e he
end Lw
namespace Lw
open PySem L2 Dl Rs
local macro_rules | `(tactic| walk_at "dl") => `(tactic| try simp (config := { maxSteps := 400000 }) only [lcBody, wipeD, back, Option.getD_some, wSeq, wIfS, wAnd, wOr, wNot, wRet, wDrop, wNext, wBrk, wCnt, wAndV, wOrV, wNotV, wB, wIf, wCB, wArgs, wVar, wC, wTup, wLst, wOp, wChain, wNeg, wSl, wP, wNoP, wSet, wPar, wAsg, wCall, wCallP, wCallN, wApp, wExt, wMt, gApp, gExt, wSetIx, wSeqI, wRng1, wRng2, wZip, wEnum, wFor, withL, lookL, lookD, with2, frz, frzL, prep, put, notLent, kindO, gTp, gNms, gNm, O.d, itemsOf, leave, endsOf, outsOf, clean, wYes, wK, CE.s, wDct0, wDct1, wRev, wRev2, wPop, wSortSet, wSortSet2, gEqNil, gNotB, wParN, wTupAsg, prepL, putL, wEnum2, wCallK, perm, gIsB, gRepr, List.getD_cons_zero, List.getD_cons_succ, wFg, wFgL, fgs, fg1, wFz, fzs, fz1, gTpG, gAllT, wTupS, wLstS, wArgsS, wLenSet, gIn_tup, gIn_lst, gNotIn_tup, gNotIn_lst, gEq_int, gNe_int, gEq_str, gNe_str,
    gI, gIC, Dl.gSub, gFdiv, gMod, gPow, gLt, gLe, gGt, gGe, gAdd, gMul, gIsN, gNotN, Dl.isNon, gIx, gSl, gLen, gAbs, gInt1, gMax2, gMin2, gTuple, gList, gIsi, atI_0, atI_1, atI_2, atI_m1, ixN_30, ixN_32,
    List.getElem?_cons_zero, List.getElem?_cons_succ, List.set_cons_zero, List.set_cons_succ, List.cons_append, List.nil_append, List.append_nil, List.replicate, List.length_cons, List.length_nil, List.map_cons, List.map_nil, Nat.reduceAdd, Nat.reduceSub, Nat.add_one_sub_one,
    true_and, and_true, if_true, if_false, Bool.false_eq_true, Bool.not_true, Bool.not_false, reduceIte, ite_true, ite_false, decide_true, decide_false])
def endAt (cuts : List Int) (b : Nat) : Int := (-9999 :: (cuts ++ [10000])).getD b 0
def spanP (cuts : List Int) (lo hi : Int) (b : Nat) : Int × Int := (max (endAt cuts b) lo, min (endAt cuts (b + 1) - 1) hi)
def bAt (bs : List (Int × Int)) (b : Nat) : Int × Int := bs.getD b (0, 0)
def filled (bs : List (Int × Int)) : List Nat := (List.range bs.length).filter fun b => decide (0 < (bAt bs b).1)
def knownAt (lo hi : Int) (bs : List (Int × Int)) (b : Nat) : List Int := (if (filled bs).take 1 = [b] then [lo] else []) ++ (if (filled bs).drop ((filled bs).length - 1) = [b] ∧ lo ≠ hi then [hi] else [])
abbrev zs (n : Nat) : List (Int × Int) := List.replicate n (0, 0)
end Lw
namespace Lw
open PySem L2 Dl Rs
local macro_rules | `(tactic| walk_at "dl") => `(tactic| try simp (config := { maxSteps := 400000 }) only [lcBody, wipeD, back, Option.getD_some, wSeq, wIfS, wAnd, wOr, wNot, wRet, wDrop, wNext, wBrk, wCnt, wAndV, wOrV, wNotV, wB, wIf, wCB, wArgs, wVar, wC, wTup, wLst, wOp, wChain, wNeg, wSl, wP, wNoP, wSet, wPar, wAsg, wCall, wCallP, wCallN, wApp, wExt, wMt, gApp, gExt, wSetIx, wSeqI, wRng1, wRng2, wZip, wEnum, wFor, withL, lookL, lookD, with2, frz, frzL, prep, put, notLent, kindO, gTp, gNms, gNm, O.d, itemsOf, leave, endsOf, outsOf, clean, wYes, wK, CE.s, wDct0, wDct1, wRev, wRev2, wPop, wSortSet, wSortSet2, gEqNil, gNotB, wParN, wTupAsg, prepL, putL, wEnum2, wCallK, perm, gIsB, gRepr, List.getD_cons_zero, List.getD_cons_succ, wFg, wFgL, fgs, fg1, wFz, fzs, fz1, gTpG, gAllT, wTupS, wLstS, wArgsS, wLenSet, gIn_tup, gIn_lst, gNotIn_tup, gNotIn_lst, gEq_int, gNe_int, gEq_str, gNe_str,
    gI, gIC, Dl.gSub, gFdiv, gMod, gPow, gLt, gLe, gGt, gGe, gAdd, gMul, gIsN, gNotN, Dl.isNon, gIx, gSl, gLen, gAbs, gInt1, gMax2, gMin2, gTuple, gList, gIsi, atI_0, atI_1, atI_2, atI_m1, ixN_30, ixN_32,
    List.getElem?_cons_zero, List.getElem?_cons_succ, List.set_cons_zero, List.set_cons_succ, List.cons_append, List.nil_append, List.append_nil, List.replicate, List.length_cons, List.length_nil, List.map_cons, List.map_nil, Nat.reduceAdd, Nat.reduceSub, Nat.add_one_sub_one,
    true_and, and_true, if_true, if_false, Bool.false_eq_true, Bool.not_true, Bool.not_false, reduceIte, ite_true, ite_false, decide_true, decide_false])
end Lw
namespace Lw
open PySem L2 Dl Rs
local macro_rules | `(tactic| walk_at "dl") => `(tactic| try simp (config := { maxSteps := 400000 }) only [lcBody, wipeD, back, Option.getD_some, wSeq, wIfS, wAnd, wOr, wNot, wRet, wDrop, wNext, wBrk, wCnt, wAndV, wOrV, wNotV, wB, wIf, wCB, wArgs, wVar, wC, wTup, wLst, wOp, wChain, wNeg, wSl, wP, wNoP, wSet, wPar, wAsg, wCall, wCallP, wCallN, wApp, wExt, wMt, gApp, gExt, wSetIx, wSeqI, wRng1, wRng2, wZip, wEnum, wFor, withL, lookL, lookD, with2, frz, frzL, prep, put, notLent, kindO, gTp, gNms, gNm, O.d, itemsOf, leave, endsOf, outsOf, clean, wYes, wK, CE.s, wDct0, wDct1, wRev, wRev2, wPop, wSortSet, wParN, wTupAsg, prepL, putL, wEnum2, wCallK, perm, gIsB, gRepr, List.getD_cons_zero, List.getD_cons_succ, wFg, wFgL, fgs, fg1, wFz, fzs, fz1, gTpG, gAllT, wTupS, wLstS, wArgsS, wLenSet, gIn_tup, gIn_lst, gNotIn_tup, gNotIn_lst, gEq_int, gNe_int, gEq_str, gNe_str,
    gI, gIC, Dl.gSub, gFdiv, gMod, gPow, gLt, gLe, gGt, gGe, gAdd, gMul, gIsN, gNotN, Dl.isNon, gIx, gSl, gLen, gAbs, gInt1, gMax2, gMin2, gTuple, gList, gIsi, atI_0, atI_1, atI_2, atI_m1, ixN_30, ixN_32,
    List.getElem?_cons_zero, List.getElem?_cons_succ, List.set_cons_zero, List.set_cons_succ, List.cons_append, List.nil_append, List.append_nil, List.replicate, List.length_cons, List.length_nil, List.map_cons, List.map_nil, Nat.reduceAdd, Nat.reduceSub, Nat.add_one_sub_one,
    true_and, and_true, if_true, if_false, Bool.false_eq_true, Bool.not_true, Bool.not_false, reduceIte, ite_true, ite_false])
end Lw
namespace Lw
open PySem L2 Dl Rs
def Fine (w dp : Nat) (d : D) : Prop := showD d = true ∧ ndD d ≤ w ∧ (pyD d).depth ≤ dp
theorem Fine.mono {w dp w' dp' : Nat} {d : D} (h : Fine w dp d) (h1 : w ≤ w') (h2 : dp ≤ dp') : Fine w' dp' d := ⟨h.1, Nat.le_trans h.2.1 h1, Nat.le_trans h.2.2 h2⟩
theorem Fine.ok {w dp : Nat} {d : D} (h : Fine w dp d) (h1 : w ≤ 50000) (h2 : dp ≤ 60) : reprOk d := ⟨h.1, Nat.le_trans h.2.1 h1, Nat.le_trans h.2.2 h2⟩
theorem Fine.any {w dp : Nat} {d : D} (h : Fine w dp d) (h1 : w ≤ 50000) : AnyOk d := ⟨h.1, Nat.le_trans h.2.1 h1⟩
theorem fineL {w dp : Nat} : ∀ {ds : List D}, (∀ e ∈ ds, Fine w dp e) → showL ds = true ∧ ndL ds ≤ ds.length * w ∧ PyData.depthAll (pyL ds) ≤ dp
  | [], _ => ⟨rfl, Nat.zero_le _, Nat.zero_le _⟩
  | d :: ds, h => by
    obtain ⟨a, b, c⟩ := fineL fun e he => h e (List.mem_cons_of_mem _ he)
    obtain ⟨x, y, z⟩ := h d (by simp)
    refine ⟨by show (showD d && showL ds) = true; rw [x, a]; rfl, ?_, ?_⟩
    · show ndD d + ndL ds ≤ _
      rw [List.length_cons, Nat.succ_mul]
      omega
    · show max (pyD d).depth (PyData.depthAll (pyL ds)) ≤ dp
      omega
theorem fine_tup {w dp n : Nat} {ds : List D} (h : ∀ e ∈ ds, Fine w dp e) (hn : ds.length ≤ n) : Fine (n * w + 1) (dp + 1) (.tup ds) := by
  obtain ⟨a, b, c⟩ := fineL h
  have := Nat.mul_le_mul_right w hn
  refine ⟨a, by show 1 + ndL ds ≤ _; omega, ?_⟩
  show PyData.depthAll (pyL ds) + 1 ≤ dp + 1
  omega
theorem fine_lst {w dp n : Nat} {ds : List D} (h : ∀ e ∈ ds, Fine w dp e) (hn : ds.length ≤ n) : Fine (n * w + 1) (dp + 1) (.lst ds) := fine_tup h hn
theorem fine_int {i : Int} (h : i.natAbs < 2 ^ 250) : Fine 1 0 (.int i) := ⟨decide_eq_true h, Nat.le_refl _, Nat.le_refl _⟩
def fineB (w dp : Nat) (d : D) : Bool := showD d && (decide (ndD d ≤ w) && decide ((pyD d).depth ≤ dp))
theorem fine_of {w dp : Nat} {d : D} (h : fineB w dp d = true) : Fine w dp d := by
  unfold fineB at h
  rw [Bool.and_eq_true, Bool.and_eq_true, decide_eq_true_eq, decide_eq_true_eq] at h
  exact h
theorem fine_mem {w dp : Nat} {ds : List D} (h : ds.all (fineB w dp) = true) : ∀ e ∈ ds, Fine w dp e := fun e he => fine_of (List.all_eq_true.mp h e he)
def InB (vs : List (Option Int)) : Prop := ∀ v, some v ∈ vs → -9999 ≤ v ∧ v ≤ 9999
def bkts (cuts known : List Int) : List (Int × Int) := (List.range (cuts.length + 1)).map (bkt cuts known)
end Lw
namespace Lw
open PySem L2 Dl Rs
end Lw
namespace Lw
open PySem L2 Dl Rs
end Lw
namespace Lw
open PySem L2 Dl Rs
structure Oth (n t : Int) (S : RS) (xs : List Int) : Prop where
  len : (xs.length : Int) = n
  sum : xs.sum = t
  ins : ∀ v ∈ xs, In S v
def spanR (cs : List Int) (lo hi : Int) (bs : List (Int × Int)) (b : Nat) : RS := if 0 < (bAt bs b).1 then [spanP cs lo hi b] else []
def othN (lo hi : Int) (bs : List (Int × Int)) (b : Nat) : Int := (bAt bs b).1 - (knownAt lo hi bs b).length
def othT (lo hi : Int) (bs : List (Int × Int)) (b : Nat) : Int := (bAt bs b).2 - (knownAt lo hi bs b).sum
end Lw
namespace Lw
open PySem L2 Dl Rs
local macro_rules | `(tactic| walk_at "dl") => `(tactic| try simp (config := { maxSteps := 400000 }) only [lcBody, wipeD, back, Option.getD_some, wSeq, wIfS, wAnd, wOr, wNot, wRet, wDrop, wNext, wBrk, wCnt, wAndV, wOrV, wNotV, wB, wIf, wCB, wArgs, wVar, wC, wTup, wLst, wOp, wChain, wNeg, wSl, wP, wNoP, wSet, wPar, wAsg, wCall, wCallP, wCallN, wApp, wExt, wMt, gApp, gExt, wSetIx, wSeqI, wRng1, wRng2, wZip, wEnum, wFor, withL, lookL, lookD, with2, frz, frzL, prep, put, notLent, kindO, gTp, gNms, gNm, O.d, itemsOf, leave, endsOf, outsOf, clean, wYes, wK, CE.s, wDct0, wDct1, wRev, wRev2, wPop, wSortSet, wSortSet2, gEqNil, gNotB, wParN, wTupAsg, prepL, putL, wEnum2, wCallK, perm, gIsB, gRepr, List.getD_cons_zero, List.getD_cons_succ, wFg, wFgL, fgs, fg1, wFz, fzs, fz1, gTpG, gAllT, wTupS, wLstS, wArgsS, wLenSet, gIn_tup, gIn_lst, gNotIn_tup, gNotIn_lst, gEq_int, gNe_int, gEq_str, gNe_str,
    gI, gIC, Dl.gSub, gFdiv, gMod, gPow, gLt, gLe, gGt, gGe, gAdd, gMul, gIsN, gNotN, Dl.isNon, gIx, gSl, gLen, gAbs, gInt1, gMax2, gMin2, gTuple, gList, gIsi, atI_0, atI_1, atI_2, atI_m1, ixN_30, ixN_32,
    List.getElem?_cons_zero, List.getElem?_cons_succ, List.set_cons_zero, List.set_cons_succ, List.cons_append, List.nil_append, List.append_nil, List.replicate, List.length_cons, List.length_nil, List.map_cons, List.map_nil, Nat.reduceAdd, Nat.reduceSub, Nat.add_one_sub_one,
    true_and, and_true, if_true, if_false, Bool.false_eq_true, Bool.not_true, Bool.not_false, reduceIte, ite_true, ite_false, decide_true, decide_false])
structure LadOk (a : RS) (n : Nat) (ls : List RS) : Prop where
  len : ls.length = n + 1
  at' : ∀ i r, ls[i]? = some r → Canon r ∧ (∀ x, In r x ↔ SumsTo a i x) ∧ r.length ≤ 9999 * i + 1
end Lw
namespace Lw
open PySem L2 Dl Rs
local macro_rules | `(tactic| walk_at "dl") => `(tactic| try simp (config := { maxSteps := 400000 }) only [wDctK, wDc2K, dcl2, wDc, dcBody, kOfD, gSortD, wUpd, gUpd, gMul2, wFld, gInK, gNotInK, lcBody, wipeD, back, Option.getD_some, wSeq, wIfS, wAnd, wOr, wNot, wRet, wDrop, wNext, wBrk, wCnt, wAndV, wOrV, wNotV, wB, wIf, wCB, wArgs, wVar, wC, wTup, wLst, wOp, wChain, wNeg, wSl, wP, wNoP, wSet, wPar, wAsg, wCall, wCallP, wCallN, wApp, wExt, wMt, gApp, gExt, wSetIx, wSeqI, wRng1, wRng2, wZip, wEnum, wFor, withL, lookL, lookD, with2, frz, frzL, prep, put, notLent, kindO, gTp, gNms, gNm, O.d, itemsOf, leave, endsOf, outsOf, clean, wYes, wK, CE.s, wDct0, wDct1, wRev, wRev2, wPop, wSortSet, wSortSet2, gEqNil, gNotB, wParN, wTupAsg, prepL, putL, wEnum2, wCallK, perm, gIsB, gRepr, List.getD_cons_zero, List.getD_cons_succ, wFg, wFgL, fgs, fg1, wFz, fzs, fz1, gTpG, gAllT, wTupS, wLstS, wArgsS, wLenSet, gIn_tup, gIn_lst, gNotIn_tup, gNotIn_lst, gEq_int, gNe_int, gEq_str, gNe_str,
    gI, gIC, Dl.gSub, gFdiv, gMod, gPow, gLt, gLe, gGt, gGe, gAdd, gMul, gIsN, gNotN, Dl.isNon, gIx, gSl, gLen, gAbs, gInt1, gMax2, gMin2, gTuple, gList, gIsi, atI_0, atI_1, atI_2, atI_m1, ixN_30, ixN_32,
    List.getElem?_cons_zero, List.getElem?_cons_succ, List.set_cons_zero, List.set_cons_succ, List.cons_append, List.nil_append, List.append_nil, List.replicate, List.length_cons, List.length_nil, List.map_cons, List.map_nil, Nat.reduceAdd, Nat.reduceSub, Nat.add_one_sub_one,
    true_and, and_true, if_true, if_false, Bool.false_eq_true, Bool.not_true, Bool.not_false, reduceIte, ite_true, ite_false, decide_true, decide_false])
structure RssOk (n : Nat) (ls : List RS) : Prop where
  len : ls.length = n + 1
  at' : ∀ (i : Nat) (r : RS), ls[i]? = some r → Canon r ∧ r.length ≤ 1000000
end Lw
namespace Lw
open PySem L2 Dl Rs
local macro_rules | `(tactic| walk_at "dl") => `(tactic| try simp (config := { maxSteps := 400000 }) only [wDctK, wDc2K, dcl2, wDc, dcBody, kOfD, wUpd, gUpd, gMul2, wFld, gInK, gNotInK, lcBody, wipeD, back, Option.getD_some, wSeq, wIfS, wAnd, wOr, wNot, wRet, wDrop, wNext, wBrk, wCnt, wAndV, wOrV, wNotV, wB, wIf, wCB, wArgs, wVar, wC, wTup, wLst, wOp, wChain, wNeg, wSl, wP, wNoP, wSet, wPar, wAsg, wCall, wCallP, wCallN, wApp, wExt, wMt, gApp, gExt, wSetIx, wSeqI, wRng1, wRng2, wZip, wEnum, wFor, withL, lookL, lookD, with2, frz, frzL, prep, put, notLent, kindO, gTp, gNms, gNm, O.d, itemsOf, leave, endsOf, outsOf, clean, wYes, wK, CE.s, wDct0, wDct1, wRev, wRev2, wPop, wSortSet, wSortSet2, gEqNil, gNotB, wParN, wTupAsg, prepL, putL, wEnum2, wCallK, perm, gIsB, gRepr, List.getD_cons_zero, List.getD_cons_succ, wFg, wFgL, fgs, fg1, wFz, fzs, fz1, gTpG, gAllT, wTupS, wLstS, wArgsS, wLenSet, gIn_tup, gIn_lst, gNotIn_tup, gNotIn_lst, gEq_int, gNe_int, gEq_str, gNe_str,
    gI, gIC, Dl.gSub, gFdiv, gMod, gPow, gLt, gLe, gGt, gGe, gAdd, gMul, gIsN, gNotN, Dl.isNon, gIx, gSl, gLen, gAbs, gInt1, gMax2, gMin2, gTuple, gList, gIsi, atI_0, atI_1, atI_2, atI_m1, ixN_30, ixN_32,
    List.getElem?_cons_zero, List.getElem?_cons_succ, List.set_cons_zero, List.set_cons_succ, List.cons_append, List.nil_append, List.append_nil, List.replicate, List.length_cons, List.length_nil, List.map_cons, List.map_nil, Nat.reduceAdd, Nat.reduceSub, Nat.add_one_sub_one,
    true_and, and_true, if_true, if_false, Bool.false_eq_true, Bool.not_true, Bool.not_false, reduceIte, ite_true, ite_false, decide_true, decide_false])
end Lw
namespace Lw
open PySem L2 Dl Rs
abbrev k_CONDITION : D := .str "condition"
structure Col where
  nm : Str
  cs : List Int
  vs : List (Option Int)
def Col.k (c : Col) : List Int := knownOf c.vs
def Col.d (c : Col) : D := cfD (.str c.nm) c.cs c.vs
structure Col.Ok (size : Nat) (c : Col) : Prop where
  len : c.vs.length = size
  c4 : c.cs.length ≤ 4
  cp : c.cs.Pairwise (· < ·)
  cb : ∀ x ∈ c.cs, -9998 ≤ x ∧ x ≤ 9999
  val : InB c.vs
structure FactsOk (size : Nat) (cols : List Col) : Prop where
  s0 : 1 ≤ size
  s1 : size ≤ 20
  ok : ∀ c ∈ cols, c.Ok size
  nd : (cols.map Col.nm).Nodup
  len : cols.length ≤ 10
abbrev Col.kn (c : Col) (b : Nat) : List Int := knownAt (leastOf c.k) (mostOf c.k) (bkts c.cs c.k) b
abbrev Col.oN (c : Col) (b : Nat) : Int := othN (leastOf c.k) (mostOf c.k) (bkts c.cs c.k) b
abbrev Col.oT (c : Col) (b : Nat) : Int := othT (leastOf c.k) (mostOf c.k) (bkts c.cs c.k) b
abbrev Col.sp (c : Col) (b : Nat) : RS := spanR c.cs (leastOf c.k) (mostOf c.k) (bkts c.cs c.k) b
def Col.part (c : Col) (b : Nat) : D := .tup [tupI (c.kn b), .int (c.oN b), .int (c.oT b), rsD (c.sp b)]
end Lw
namespace Lw
open PySem L2 Dl Rs
local macro_rules | `(tactic| walk_at "dl") => `(tactic| try simp (config := { maxSteps := 400000 }) only [wDctK, wDc, dcBody, kOfD, wFld, wUnM, back1, Dl.isObj, gIxK, gInK, gNotInK, lcBody, wipeD, back, Option.getD_some, wSeq, wIfS, wAnd, wOr, wNot, wRet, wDrop, wNext, wBrk, wCnt, wAndV, wOrV, wNotV, wB, wIf, wCB, wArgs, wVar, wC, wTup, wLst, wOp, wChain, wNeg, wSl, wP, wNoP, wSet, wPar, wAsg, wCall, wCallP, wCallN, wApp, wExt, wMt, gApp, gExt, wSetIx, wSeqI, wRng1, wRng2, wZip, wEnum, wFor, withL, lookL, lookD, with2, frz, frzL, prep, put, notLent, kindO, gTp, gNms, gNm, O.d, itemsOf, leave, endsOf, outsOf, clean, wYes, wK, CE.s, wDct0, wDct1, wRev, wRev2, wPop, wSortSet, wSortSet2, gEqNil, gNotB, wParN, wTupAsg, prepL, putL, wEnum2, wCallK, perm, gIsB, gRepr, List.getD_cons_zero, List.getD_cons_succ, wFg, wFgL, fgs, fg1, wFz, fzs, fz1, gTpG, gAllT, wTupS, wLstS, wArgsS, wLenSet, gIn_tup, gIn_lst, gNotIn_tup, gNotIn_lst, gEq_int, gNe_int, gEq_str, gNe_str,
    gI, gIC, Dl.gSub, gFdiv, gMod, gPow, gLt, gLe, gGt, gGe, gAdd, gMul, gIsN, gNotN, Dl.isNon, gIx, gSl, gLen, gAbs, gInt1, gMax2, gMin2, gTuple, gList, gIsi, atI_0, atI_1, atI_2, atI_m1, ixN_30, ixN_32,
    List.getElem?_cons_zero, List.getElem?_cons_succ, List.set_cons_zero, List.set_cons_succ, List.cons_append, List.nil_append, List.append_nil, List.replicate, List.length_cons, List.length_nil, List.map_cons, List.map_nil, Nat.reduceAdd, Nat.reduceSub, Nat.add_one_sub_one,
    true_and, and_true, if_true, if_false, Bool.false_eq_true, Bool.not_true, Bool.not_false, reduceIte, ite_true, ite_false, decide_true, decide_false])
abbrev condD (c : Str) (R : RS) (m : Bool) : D := .tup [.str "condition", .str c, rsD R, .bl m]
structure CondOk (R : RS) : Prop where
  can : Canon R
  len : R.length ≤ 4
def C_Question_columns : WE := fun args Q => ∃ (t s : D) (ns : List Str), args = [.fro (.obj "Question" [("tree", t), ("column_list", .lst (ns.map .str)), ("string", s)])] ∧ Q (.fro (.tup (ns.map .str))) args
def w_Question_columns : WS := (wRet (wCB gTuple [(wFld "Question" "column_list" (wVar 0))]))
theorem ok_Question_columns (args : List Dl.Slot) (Q : Dl.Slot → List Dl.Slot → Prop) (hl : args.length = 1) (h : C_Question_columns args Q) : noOwn args ∧ w_Question_columns (endsOf args Q) (args ++ List.replicate (1 - 1) .nil) := by
  obtain ⟨t, s, ns, rfl, hq⟩ := h
  refine ⟨noOwn1 _, ?_⟩
  unfold w_Question_columns
  walk_at "dl"
  exact hq
end Lw
namespace Lw
open PySem L2 Dl Rs
theorem put1 (d : D) : putFD "tree" d [] = [(("tree" : Str), d)] := rfl
theorem put2 (t d : D) : putFD "column_list" d [(("tree" : Str), t)] = [(("tree" : Str), t), (("column_list" : Str), d)] := by
  unfold putFD
  rw [if_neg (by decide +kernel)]
  rfl
theorem put3 (t l d : D) : putFD "string" d [(("tree" : Str), t), (("column_list" : Str), l)] = [(("tree" : Str), t), (("column_list" : Str), l), (("string" : Str), d)] := by
  unfold putFD
  rw [if_neg (by decide +kernel)]
  unfold putFD
  rw [if_neg (by decide +kernel)]
  rfl
theorem lk_tree (t : D) (r : List (Str × D)) : List.lookup ("tree" : Str) ((("tree" : Str), t) :: r) = some t := by
  rw [List.lookup_cons, show (("tree" : Str) == "tree") = true by decide +kernel]
theorem lk_cols (t l : D) (r : List (Str × D)) : List.lookup ("column_list" : Str) ((("tree" : Str), t) :: (("column_list" : Str), l) :: r) = some l := by
  rw [List.lookup_cons, show (("column_list" : Str) == "tree") = false by decide +kernel]
  dsimp only
  rw [List.lookup_cons, show (("column_list" : Str) == "column_list") = true by decide +kernel]
theorem lk_str (t l s : D) (r : List (Str × D)) : List.lookup ("string" : Str) ((("tree" : Str), t) :: (("column_list" : Str), l) :: (("string" : Str), s) :: r) = some s := by
  rw [List.lookup_cons, show (("string" : Str) == "tree") = false by decide +kernel]
  dsimp only
  rw [List.lookup_cons, show (("string" : Str) == "column_list") = false by decide +kernel]
  dsimp only
  rw [List.lookup_cons, show (("string" : Str) == "string") = true by decide +kernel]
end Lw
namespace Lw
open PySem L2 Dl Rs
local macro_rules | `(tactic| walk_at "dl") => `(tactic| try simp (config := { maxSteps := 400000 }) only [wSetF, wFld, wMake, wJoin, gStr, gSortS, strsOf, put1, put2, put3, lk_tree, lk_cols, lk_str, lcBody, wipeD, back, Option.getD_some, wSeq, wIfS, wAnd, wOr, wNot, wRet, wDrop, wNext, wBrk, wCnt, wAndV, wOrV, wNotV, wB, wIf, wCB, wArgs, wVar, wC, wTup, wLst, wOp, wChain, wNeg, wSl, wP, wNoP, wSet, wPar, wAsg, wCall, wCallP, wCallN, wApp, wExt, wMt, gApp, gExt, wSetIx, wSeqI, wRng1, wRng2, wZip, wEnum, wFor, withL, lookL, lookD, with2, frz, frzL, prep, put, notLent, kindO, gTp, gNms, gNm, O.d, itemsOf, leave, endsOf, outsOf, clean, wYes, wK, CE.s, wDct0, wDct1, wRev, wRev2, wPop, wSortSet, wSortSet2, gEqNil, gNotB, wParN, wTupAsg, prepL, putL, wEnum2, wCallK, perm, gIsB, gRepr, List.getD_cons_zero, List.getD_cons_succ, wFg, wFgL, fgs, fg1, wFz, fzs, fz1, gTpG, gAllT, wTupS, wLstS, wArgsS, wLenSet, gIn_tup, gIn_lst, gNotIn_tup, gNotIn_lst, gEq_int, gNe_int, gEq_str, gNe_str,
    gI, gIC, Dl.gSub, gFdiv, gMod, gPow, gLt, gLe, gGt, gGe, gAdd, gMul, gIsN, gNotN, Dl.isNon, gIx, gSl, gLen, gAbs, gInt1, gMax2, gMin2, gTuple, gList, gIsi, atI_0, atI_1, atI_2, atI_m1, ixN_30, ixN_32,
    List.getElem?_cons_zero, List.getElem?_cons_succ, List.set_cons_zero, List.set_cons_succ, List.cons_append, List.nil_append, List.append_nil, List.replicate, List.length_cons, List.length_nil, List.map_cons, List.map_nil, Nat.reduceAdd, Nat.reduceSub, Nat.add_one_sub_one,
    true_and, and_true, if_true, if_false, Bool.false_eq_true, Bool.not_true, Bool.not_false, reduceIte, ite_true, ite_false, decide_true, decide_false])
abbrev k_LEAST_conditions : D := .int (-9999)
abbrev k_GREATEST_conditions : D := .int 9999
abbrev k_MOST_PAIRS : D := .int 4
abbrev k_MOST_COLUMNS8 : D := .int 8
abbrev k_JOINED : D := .str "joined"
abbrev k_NEGATED : D := .str "negated"
abbrev k_BETWEEN : D := .str ".."
abbrev k_MISSING : D := .str "?"
abbrev k_NOTHING_question_text : D := .str "-"
def numT (i : Int) : Str := Str.ofString (toString i)
def pairT (p : Int × Int) : Str := if p.1 = p.2 then numT p.1 else numT p.1 ++ ".." ++ numT p.2
def moreT (m : Bool) : List Str := if m = true then [("?" : Str)] else []
def wordsT (R : RS) (m : Bool) : List Str := R.map pairT ++ moreT m
def condT (c : Str) (R : RS) (m : Bool) : Str := c ++ "=" ++ (if wordsT R m = [] then ("-" : Str) else Txt.join "," (wordsT R m))
structure CondIn (R : RS) : Prop extends CondOk R where
  ins : Within (-9999) 9999 R
theorem CondIn.bnd {R : RS} (h : CondIn R) {p : Int × Int} (hp : p ∈ R) : -9999 ≤ p.1 ∧ p.1 ≤ 9999 ∧ -9999 ≤ p.2 ∧ p.2 ≤ 9999 := by
  have a := h.ins p hp
  have b := h.can.ok p hp
  omega
def C_are_within : WE := fun args Q => ∃ R : RS, args = [.fro (rsD R)] ∧ Within (-9999) 9999 R ∧ Q (.fro (.bl true)) args
def C_is_taken_set : WE := fun args Q => ∃ R : RS, args = [.fro (rsD R)] ∧ CondIn R ∧ Q (.fro (.bl true)) args
def C_columns_in : WE := fun args Q => ∃ (c : Str) (R : RS) (m : Bool), args = [.fro (condD c R m)] ∧ Q (.own false (.lst [.str c])) args
def C_widest_in : WE := fun args Q => ∃ (c : Str) (R : RS) (m : Bool), args = [.fro (condD c R m)] ∧ Q (.fro (.int (R.length : Nat))) args
def C_settled : WE := fun args Q => ∃ (c : Str) (R : RS) (m : Bool), args = [.fro (condD c R m)] ∧ Q (.fro (condD c R m)) args
def C_pair_text : WE := fun args Q => ∃ p : Int × Int, args = [.fro (.int p.1), .fro (.int p.2)] ∧ p.1.natAbs ≤ 10000 ∧ p.2.natAbs ≤ 10000 ∧ Q (.fro (.str (pairT p))) args
def C_condition_text : WE := fun args Q => ∃ (c : Str) (R : RS) (m : Bool), args = [.fro (condD c R m)] ∧ c.length ≤ 8 ∧ CondIn R ∧ Q (.fro (.str (condT c R m))) args
def C_tree_text : WE := fun args Q => ∃ (c : Str) (R : RS) (m : Bool), args = [.fro (condD c R m)] ∧ c.length ≤ 8 ∧ CondIn R ∧ Q (.fro (.str (condT c R m))) args
def C_Question___init__ : WE := fun args Q => ∃ (c : Str) (R : RS) (m : Bool), args = [.own true (.obj "Question" []), .fro (condD c R m)] ∧ c.length ≤ 8 ∧ CondIn R ∧
  Q (.fro .non) [.own true (.obj "Question" [("tree", condD c R m), ("column_list", .lst [.str c]), ("string", .str (condT c R m))]), .fro (condD c R m)]
def w_are_within : WS := (wRet (wOrV (wOp gEqNil (wVar 0) (wTup [])) (wAndV (wOp gLe (wC k_LEAST_conditions) (wOp gIx (wOp gIx (wVar 0) (wC (.int 0))) (wC (.int 0)))) (wOp gLe (wOp gIx (wOp gIx (wVar 0) (wNeg (wC (.int 1)))) (wC (.int 1))) (wC k_GREATEST_conditions)))))
def w_is_taken_set : WS := (wRet (wAndV (wCall C_is_ranges [(wVar 0)]) (wAndV (wOp gLe (wCB gLen [(wVar 0)]) (wC k_MOST_PAIRS)) (wCall C_are_within [(wVar 0)]))))
def w_columns_in : WS := (wSeq (wIfS (wB (wOp gEq (wOp gIx (wVar 0) (wC (.int 0))) (wC k_CONDITION))) (wRet (wLst [(wOp gIx (wVar 0) (wC (.int 1)))])) wNext)
  wNever)
def w_widest_in : WS := (wSeq (wIfS (wB (wOp gEq (wOp gIx (wVar 0) (wC (.int 0))) (wC k_CONDITION))) (wRet (wCB gLen [(wOp gIx (wVar 0) (wC (.int 2)))])) wNext)
  wNever)
def w_settled : WS := (wSeq (wIfS (wB (wOp gEq (wOp gIx (wVar 0) (wC (.int 0))) (wC k_JOINED))) (wRet wNevE) wNext)
  (wRet (wIf (wB (wOp gEq (wOp gIx (wVar 0) (wC (.int 0))) (wC k_NEGATED))) wNevE (wVar 0))))
def w_pair_text : WS := (wRet (wIf (wB (wOp gEq (wVar 0) (wVar 1))) (wCB gStr [(wVar 0)]) (wOp gAdd (wOp gAdd (wCB gStr [(wVar 0)]) (wC k_BETWEEN)) (wCB gStr [(wVar 1)]))))
def wr_condition_text_1 : WS := (wRet (wOp gAdd (wOp gAdd (wOp gIx (wVar 0) (wC (.int 1))) (wC (.str "="))) (wIf (wB (wOp gEq (wOp gAdd (wVar 1) (wVar 4)) (wLst []))) (wC k_NOTHING_question_text) (wJoin (wC (.str ",")) (wOp gAdd (wVar 1) (wVar 4))))))
def wr_condition_text_2 : WS := (wSeq (wFz [4] (wSet 4 (wIf (wB (wOp gIx (wVar 0) (wC (.int 3)))) (wLst [(wC k_MISSING)]) (wLst []))))
  wr_condition_text_1)
def w_condition_text : WS := (wSeq (wFz [1] (wSet 1 (wLc (wSeqI (wOp gIx (wVar 0) (wC (.int 2)))) (gTp [2, 3]) wYes (wCall C_pair_text [(wVar 2), (wVar 3)]) [2, 3])))
  wr_condition_text_2)
def wr_tree_text_1 : WS := wNever
def w_tree_text : WS := (wSeq (wIfS (wB (wOp gEq (wOp gIx (wVar 0) (wC (.int 0))) (wC k_CONDITION))) (wRet (wCall C_condition_text [(wVar 0)])) wNext)
  (wSeq wNever
  (wSeq (wFg [2, 3] (wFz [1] wNever))
  wr_tree_text_1)))
def wr_Question___init___1 : WS := (wSetF 0 "Question" "string" (wCall C_tree_text [(wFld "Question" "tree" (wVar 0))]))
def wr_Question___init___2 : WS := (wSeq (wIfS (wB (wOp gGt (wCall C_widest_in [(wFld "Question" "tree" (wVar 0))]) (wC k_MOST_PAIRS))) wNever wNext)
  wr_Question___init___1)
def wr_Question___init___3 : WS := (wSeq (wIfS (wB (wOp gGt (wCB gLen [(wFld "Question" "column_list" (wVar 0))]) (wC k_MOST_COLUMNS8))) wNever wNext)
  wr_Question___init___2)
def wr_Question___init___4 : WS := (wSeq (wFg [2] (wIfS (wB (wOp gNe (wVar 2) (wLst []))) wNever wNext))
  wr_Question___init___3)
def wr_Question___init___5 : WS := (wSeq (wFz [2] (wSet 2 (wLc (wZip [(wFld "Question" "column_list" (wVar 0)), (wSl (wFld "Question" "column_list" (wVar 0)) (wP (wC (.int 1))) wNoP)]) (gTp [3, 4]) (wB (wOp gEq (wVar 3) (wVar 4))) (wVar 3) [3, 4])))
  wr_Question___init___4)
def wr_Question___init___6 : WS := (wSeq (wSetF 0 "Question" "column_list" (wCB gSortS [(wCall C_columns_in [(wFld "Question" "tree" (wVar 0))])]))
  wr_Question___init___5)
def w_Question___init__ : WS := (wSeq (wSetF 0 "Question" "tree" (wCall C_settled [(wVar 1)]))
  wr_Question___init___6)
theorem at_rsl {R : RS} {p : Int × Int} : atI ((R ++ [p]).map pairD) (-1) = some (pairD p) := by rw [List.map_append]; exact atI_m1
theorem ok_are_within (args : List Dl.Slot) (Q : Dl.Slot → List Dl.Slot → Prop) (hl : args.length = 1) (h : C_are_within args Q) : noOwn args ∧ w_are_within (endsOf args Q) (args ++ List.replicate (1 - 1) .nil) := by
  obtain ⟨R, rfl, hw, hq⟩ := h
  refine ⟨noOwn1 _, ?_⟩
  unfold w_are_within rsD
  cases R with
  | nil =>
    walk_at "dl"
    exact ⟨by decide, by rw [if_pos (show ([] : List D).isEmpty = true from rfl)]; exact hq⟩
  | cons p r =>
    rcases List.eq_nil_or_concat (p :: r) with h | ⟨ys, q, h⟩
    · cases h
    rw [List.concat_eq_append] at h
    have hp := hw p (by simp)
    have hq' := hw q (by rw [h]; simp)
    unfold rsD at hq
    rw [List.map_cons] at hq ⊢
    walk_at "dl"
    unfold pairD
    walk_at "dl"
    rw [decide_eq_true hp.1]
    walk_at "dl"
    have e : atI (D.tup [.int p.1, .int p.2] :: r.map pairD) (-1) = some (pairD q) := by
      show atI ((p :: r).map pairD) (-1) = _
      rw [h]; exact at_rsl
    unfold pairD at e
    rw [e]
    walk_at "dl"
    rw [decide_eq_true hq'.2]
    exact ⟨by decide, by rw [if_neg (by simp)]; exact hq⟩
theorem ok_is_taken_set (args : List Dl.Slot) (Q : Dl.Slot → List Dl.Slot → Prop) (hl : args.length = 1) (h : C_is_taken_set args Q) : noOwn args ∧ w_is_taken_set (endsOf args Q) (args ++ List.replicate (1 - 1) .nil) := by
  obtain ⟨R, rfl, hw, hq⟩ := h
  have h4 := hw.len
  refine ⟨noOwn1 _, ?_⟩
  unfold w_is_taken_set
  walk_at "dl"
  refine is_ranges_rs hw.can (by omega) ?_
  walk_at "dl"
  unfold rsD at hq ⊢
  walk_at "dl"
  rw [List.length_map, decide_eq_true (show ((R.length : Nat) : Int) ≤ 4 by omega)]
  walk_at "dl"
  exact ⟨R, rfl, hw.ins, hq⟩
theorem ok_columns_in (args : List Dl.Slot) (Q : Dl.Slot → List Dl.Slot → Prop) (hl : args.length = 1) (h : C_columns_in args Q) : noOwn args ∧ w_columns_in (endsOf args Q) (args ++ List.replicate (3 - 1) .nil) := by
  obtain ⟨c, R, m, rfl, hq⟩ := h
  refine ⟨noOwn1 _, ?_⟩
  unfold w_columns_in
  walk_at "dl"
  exact ⟨by decide, hq⟩
theorem ok_widest_in (args : List Dl.Slot) (Q : Dl.Slot → List Dl.Slot → Prop) (hl : args.length = 1) (h : C_widest_in args Q) : noOwn args ∧ w_widest_in (endsOf args Q) (args ++ List.replicate (2 - 1) .nil) := by
  obtain ⟨c, R, m, rfl, hq⟩ := h
  refine ⟨noOwn1 _, ?_⟩
  unfold w_widest_in
  unfold condD rsD at hq ⊢
  walk_at "dl"
  rw [List.length_map]
  exact hq
theorem ok_settled (args : List Dl.Slot) (Q : Dl.Slot → List Dl.Slot → Prop) (hl : args.length = 1) (h : C_settled args Q) : noOwn args ∧ w_settled (endsOf args Q) (args ++ List.replicate (1 - 1) .nil) := by
  obtain ⟨c, R, m, rfl, hq⟩ := h
  refine ⟨noOwn1 _, ?_⟩
  unfold w_settled
  walk_at "dl"
  rw [decide_eq_false (show ¬ (("condition" : Str) = "joined") by decide +kernel)]
  walk_at "dl"
  rw [decide_eq_false (show ¬ (("condition" : Str) = "negated") by decide +kernel)]
  walk_at "dl"
  exact hq
theorem log_of {i : Int} (h : i.natAbs ≤ 10000) : i.natAbs.log2 < 1920 := by
  by_cases h0 : i.natAbs = 0
  · rw [h0]; decide
  · exact Nat.lt_of_lt_of_le ((Nat.log2_lt h0).mpr (show i.natAbs < 2 ^ 20 by exact Nat.lt_of_le_of_lt h (by decide))) (by decide)
theorem numT_len {i : Int} (h : i.natAbs ≤ 10000) : (numT i).length ≤ 1921 := PyProof.Rows.int_text_len_1921 (log_of h)
theorem len_append (a b : Str) : (a ++ b).length = a.length + b.length := by
  show (a.cps ++ b.cps).size = _
  rw [Array.size_append]; rfl
theorem pairT_len {p : Int × Int} (h1 : p.1.natAbs ≤ 10000) (h2 : p.2.natAbs ≤ 10000) : (pairT p).length ≤ 4000 := by
  unfold pairT
  have a := numT_len h1
  have b := numT_len h2
  split
  · omega
  · rw [len_append, len_append]
    have : (".." : Str).length = 2 := by decide +kernel
    omega
theorem ok_pair_text (args : List Dl.Slot) (Q : Dl.Slot → List Dl.Slot → Prop) (hl : args.length = 2) (h : C_pair_text args Q) : noOwn args ∧ w_pair_text (endsOf args Q) (args ++ List.replicate (2 - 2) .nil) := by
  obtain ⟨p, rfl, h1, h2, hq⟩ := h
  refine ⟨noOwn2 _ _, ?_⟩
  unfold w_pair_text
  walk_at "dl"
  unfold pairT at hq
  have a := numT_len h1
  have b := numT_len h2
  have e : (".." : Str).length = 2 := by decide +kernel
  by_cases hp : p.1 = p.2
  · rw [if_pos hp] at hq
    rw [decide_eq_true hp]
    walk_at "dl"
    exact ⟨log_of h1, hq⟩
  · rw [if_neg hp] at hq
    rw [decide_eq_false hp]
    walk_at "dl"
    refine ⟨log_of h1, ?_, ?_⟩
    · show (numT p.1).length + _ ≤ _
      rw [e]; exact big _ (by omega)
    · refine ⟨log_of h2, ?_, hq⟩
      show (numT p.1 ++ ".." : Str).length + (numT p.2).length ≤ _
      rw [len_append, e]; exact big _ (by omega)
def pairTD : D → D
  | .tup [.int a, .int b] => .str (pairT (a, b))
  | d => d
def okS (x : Str) : Prop := x.cps.all (fun c => decide (c < 0x110000)) = true
theorem okS_iff {x : Str} : okS x ↔ ∀ c ∈ x.cps.toList, c < 0x110000 := by
  unfold okS
  rw [← Array.all_toList, List.all_eq_true]
  exact ⟨fun h c hc => of_decide_eq_true (h c hc), fun h c hc => decide_eq_true (h c hc)⟩
theorem okS_of (s : String) : okS (Str.ofString s) := by
  rw [okS_iff, PyProof.Rows.signs_ofString]
  intro c hc
  obtain ⟨k, _, rfl⟩ := List.mem_map.mp hc
  have := k.valid
  unfold UInt32.isValidChar Nat.isValidChar at this
  show k.val.toNat < _
  omega
theorem okS_append {a b : Str} (h1 : okS a) (h2 : okS b) : okS (a ++ b) := by
  rw [okS_iff] at *
  intro c hc
  have e : (a ++ b).cps.toList = a.cps.toList ++ b.cps.toList := by
    show (a.cps ++ b.cps).toList = _
    rw [Array.toList_append]
  rw [e] at hc
  exact (List.mem_append.mp hc).elim (h1 c) (h2 c)
theorem okS_pair (p : Int × Int) : okS (pairT p) := by
  unfold pairT
  split
  · exact okS_of _
  · exact okS_append (okS_append (okS_of _) (okS_of _)) (okS_of _)
theorem okS_words {R : RS} {m : Bool} : ∀ x ∈ wordsT R m, okS x := fun x hx => by
  unfold wordsT moreT at hx
  rcases List.mem_append.mp hx with h | h
  · obtain ⟨p, _, rfl⟩ := List.mem_map.mp h
    exact okS_pair p
  · split at h
    · rw [List.mem_singleton.mp h]; exact okS_of _
    · cases h
theorem sh_str {x : Str} (h : okS x) : Sh 0 (.str x) := ⟨rfl, h, Nat.le_refl _⟩
theorem shL_strs {ys : List Str} (h : ∀ x ∈ ys, okS x) : shD (.lst (ys.map .str)) := by
  have : Sh 1 (.lst (ys.map .str)) := by
    obtain ⟨a, b, c⟩ := shL (n := 0) (ds := ys.map .str) fun e he => by obtain ⟨x, hx, rfl⟩ := List.mem_map.mp he; exact sh_str (h x hx)
    exact ⟨a, b, Nat.add_le_add_right c 1⟩
  exact this.sh (by decide)
theorem gEq_strs_nil {ys : List Str} (h : ∀ x ∈ ys, okS x) {k : Dl.Slot → Prop} : gEq (.lst (ys.map .str)) (.lst []) k = k (.fro (.bl (decide (ys = [])))) := by
  rw [gEq_sh (shL_strs h) (show shD (.lst []) from shL_strs (ys := []) fun x hx => (nomatch hx))]
  cases ys <;> rfl
theorem gNe_strs_nil {ys : List Str} (h : ∀ x ∈ ys, okS x) {k : Dl.Slot → Prop} : gNe (.lst (ys.map .str)) (.lst []) k = k (.fro (.bl (!decide (ys = [])))) := by
  rw [gNe_sh (shL_strs h) (show shD (.lst []) from shL_strs (ys := []) fun x hx => (nomatch hx))]
  cases ys <;> rfl
theorem words_sum {R : RS} {m : Bool} (h : CondIn R) : ((wordsT R m).map (·.length)).sum ≤ 20000 ∧ (wordsT R m).length ≤ 5 := by
  have h4 := h.len
  have one : ∀ l : RS, (∀ p ∈ l, p ∈ R) → ((l.map pairT).map (·.length)).sum ≤ 4000 * l.length := fun l => by
    induction l with
    | nil => intro _; simp
    | cons p l ih =>
      intro hl
      have hb := h.bnd (hl p (by simp))
      have := pairT_len (p := p) (by omega) (by omega)
      have := ih fun q hq => hl q (List.mem_cons_of_mem _ hq)
      simp only [List.map_cons, List.sum_cons, List.length_cons]
      omega
  have h1 := one R fun p hp => hp
  unfold wordsT
  have e : ("?" : Str).length = 1 := by decide +kernel
  unfold moreT
  cases m
  · simp only [Bool.false_eq_true, if_false, List.append_nil, List.length_map]
    omega
  · simp only [if_true, List.map_append, List.sum_append, List.length_append, List.length_map, List.map_cons, List.map_nil, List.sum_cons, List.sum_nil, List.length_cons, List.length_nil]
    omega
theorem join_len (a : Str) (ys : List Str) : (Txt.join a ys).length ≤ (ys.map (·.length)).sum + ys.length * a.length := by
  unfold Txt.join
  rw [size_glued]
  exact Nat.add_le_add_left (Nat.mul_le_mul_right _ (Nat.sub_le _ _)) _
theorem ok_condition_text (args : List Dl.Slot) (Q : Dl.Slot → List Dl.Slot → Prop) (hl : args.length = 1) (h : C_condition_text args Q) : noOwn args ∧ w_condition_text (endsOf args Q) (args ++ List.replicate (5 - 1) .nil) := by
  obtain ⟨c, R, m, rfl, hc, hR, hq⟩ := h
  have h4 := hR.len
  refine ⟨noOwn1 _, ?_⟩
  unfold w_condition_text wLc
  generalize hK : endsOf [.fro (condD c R m)] Q = KD
  have hret : ∀ (ρ : List Dl.Slot), KD.rt (.fro (.str (condT c R m))) ρ := fun ρ => by subst hK; exact rtF [_] hq
  clear hK hq
  unfold condD rsD
  walk_at "dl"
  refine lc_map (wi := wSeqI (wOp gIx (wVar 0) (wC (.int 2)))) pairTD (R.map pairD) (by rw [List.length_map]; omega) (fun d hd k1 k0 hk => ?_) ?_
  · obtain ⟨p, hp, rfl⟩ := List.mem_map.mp hd
    have hb := hR.bnd hp
    unfold pairD at hk ⊢
    walk_at "dl"
    refine ⟨p, rfl, by omega, by omega, ?_⟩
    walk_at "dl"
    exact hk
  · have e : (R.map pairD).map pairTD = (R.map pairT).map D.str := by
      rw [List.map_map, List.map_map]; rfl
    rw [e]
    obtain ⟨w1, w2⟩ := words_sum (m := m) hR
    have e2 : ∀ mm : List Str, moreT m = mm → (R.map pairT).map D.str ++ mm.map D.str = (wordsT R m).map D.str := fun mm h => by
      unfold wordsT
      rw [List.map_append, h]
    have e1 : ("=" : Str).length = 1 := by decide +kernel
    have e3 : ("-" : Str).length = 1 := by decide +kernel
    have e4 : ("," : Str).length = 1 := by decide +kernel
    have tail : ∀ mm : List Str, moreT m = mm → wr_condition_text_1 KD [.fro (.tup [.str "condition", .str c, .tup (R.map pairD), .bl m]), .fro (.lst ((R.map pairT).map D.str)), .nil, .nil, .fro (.lst (mm.map D.str))] := fun mm hmm => by
      have e5 := e2 mm hmm
      have hml : mm.length ≤ 1 := by rw [← hmm]; unfold moreT; split <;> simp
      have hz : ((R.map pairT).map D.str).length + (mm.map D.str).length ≤ sizeLine := by
        rw [List.length_map, List.length_map, List.length_map]; exact big _ (by omega)
      unfold wr_condition_text_1
      walk_at "dl"
      refine ⟨by rw [e1]; exact big _ (by omega), hz, by decide, ?_⟩
      rw [e5, gEq_strs_nil okS_words]
      have cl : (c ++ "=" : Str).length ≤ 9 := by rw [len_append, e1]; omega
      have fin := hret [.fro (.tup [.str "condition", .str c, .tup (R.map pairD), .bl m]), .fro (.lst ((R.map pairT).map D.str)), .nil, .nil, .fro (.lst (mm.map D.str))]
      unfold condT at fin
      by_cases hw : wordsT R m = []
      · rw [decide_eq_true hw]
        rw [if_pos hw] at fin
        walk_at "dl"
        exact ⟨by rw [e3]; exact big _ (by omega), fin⟩
      · rw [decide_eq_false hw]
        rw [if_neg hw] at fin
        walk_at "dl"
        refine ⟨hz, wordsT R m, rfl, by rw [e4]; omega, ?_, fin⟩
        have := join_len "," (wordsT R m)
        rw [e4] at this
        exact big _ (by omega)
    walk_at "dl"
    unfold wr_condition_text_2
    cases m with
    | true =>
      walk_at "dl"
      exact ⟨by decide, tail ["?"] rfl⟩
    | false =>
      walk_at "dl"
      exact ⟨by decide, tail [] rfl⟩
theorem ok_tree_text (args : List Dl.Slot) (Q : Dl.Slot → List Dl.Slot → Prop) (hl : args.length = 1) (h : C_tree_text args Q) : noOwn args ∧ w_tree_text (endsOf args Q) (args ++ List.replicate (4 - 1) .nil) := by
  obtain ⟨c, R, m, rfl, hc, hR, hq⟩ := h
  refine ⟨noOwn1 _, ?_⟩
  unfold w_tree_text
  walk_at "dl"
  refine ⟨c, R, m, rfl, hc, hR, ?_⟩
  walk_at "dl"
  exact hq
theorem cutFrom1 (c : Str) : cutD [D.str c] (some 1) none = [] := rfl
theorem ok_Question___init__ (args : List Dl.Slot) (Q : Dl.Slot → List Dl.Slot → Prop) (hl : args.length = 2) (h : C_Question___init__ args Q) : noOwn args ∧ w_Question___init__ (endsOf args Q) (args ++ List.replicate (5 - 2) .nil) := by
  obtain ⟨c, R, m, rfl, hc, hR, hq⟩ := h
  have h4 := hR.len
  refine ⟨noOwnT2, ?_⟩
  unfold w_Question___init__
  walk_at "dl"
  refine ⟨c, R, m, rfl, ?_⟩
  walk_at "dl"
  refine ⟨by decide, ?_⟩
  unfold wr_Question___init___6
  walk_at "dl"
  refine ⟨c, R, m, rfl, ?_⟩
  walk_at "dl"
  refine ⟨[c], rfl, by simp, fun ys h1 h2 => ?_⟩
  have e : ys = [c] := List.perm_singleton.mp h1
  subst e
  walk_at "dl"
  refine ⟨by decide, ?_⟩
  unfold wr_Question___init___5 wLc
  walk_at "dl"
  have e : cutD [D.str c] (some 1) none = [] := cutFrom1 c
  rw [e]
  show lcl _ _ _ _ _ [] _ []
  unfold lcl
  walk_at "dl"
  unfold wr_Question___init___4
  walk_at "dl"
  refine ⟨by decide, ?_⟩
  rw [show gNe (.lst []) (.lst []) = gNe (.lst (([] : List Str).map .str)) (.lst []) from rfl, gNe_strs_nil (ys := []) fun x hx => (List.not_mem_nil hx).elim]
  walk_at "dl"
  unfold wr_Question___init___3
  walk_at "dl"
  unfold wr_Question___init___2
  walk_at "dl"
  refine ⟨c, R, m, rfl, ?_⟩
  walk_at "dl"
  rw [decide_eq_false (show ¬ (4 < ((R.length : Nat) : Int)) by omega)]
  walk_at "dl"
  unfold wr_Question___init___1
  walk_at "dl"
  refine ⟨c, R, m, rfl, hc, hR, ?_⟩
  walk_at "dl"
  exact ⟨by decide, hq⟩
end Lw
namespace Lw
open PySem L2 Dl Rs
local macro_rules | `(tactic| walk_at "dl") => `(tactic| try simp (config := { maxSteps := 400000 }) only [gNotInX, gIxK, gNotInK, gInK, wFld, wUnM, back1, Dl.isObj, gIsN, gAny, gAll, gNotN, wSeqX, wIfX, wLift, wLiftE, wRetX, wDropX, wCallX, wRaise, wTupX, wCallA, wCallXK, wCallXPK, wLam, capt, viewL, lamOf, wAct, wTry, wExcF, wIsExc, wIsExcN, wSetX, endsNil, wMake, lcBody, wipeD, back, Option.getD_some, wSeq, wIfS, wAnd, wOr, wNot, wRet, wDrop, wNext, wBrk, wCnt, wAndV, wOrV, wNotV, wB, wIf, wCB, wArgs, wVar, wC, wTup, wLst, wOp, wChain, wNeg, wSl, wP, wNoP, wSet, wPar, wAsg, wCall, wCallP, wCallN, wApp, wExt, wMt, gApp, gExt, wSetIx, wSeqI, wRng1, wRng2, wZip, wEnum, wFor, withL, lookL, lookD, with2, frz, frzL, prep, put, notLent, kindO, gTp, gNms, gNm, O.d, itemsOf, leave, endsOf, outsOf, clean, wYes, wK, CE.s, wDct0, wDct1, wRev, wRev2, wPop, wSortSet, wSortSet2, gEqNil, gNotB, wParN, wTupAsg, prepL, putL, wEnum2, wCallK, perm, gIsB, gRepr, List.getD_cons_zero, List.getD_cons_succ, wFg, wFgL, fgs, fg1, wFz, fzs, fz1, gTpG, gAllT, wTupS, wLstS, wArgsS, wLenSet, gIn_tup, gIn_lst, gNotIn_tup, gNotIn_lst, gEq_int, gNe_int, gEq_str, gNe_str,
    gI, gIC, Dl.gSub, gFdiv, gMod, gPow, gLt, gLe, gGt, gGe, gAdd, gMul, gIsN, gNotN, Dl.isNon, gIx, gSl, gLen, gAbs, gInt1, gMax2, gMin2, gTuple, gList, gIsi, atI_0, atI_1, atI_2, atI_m1, ixN_30, ixN_32,
    List.getElem?_cons_zero, List.getElem?_cons_succ, List.set_cons_zero, List.set_cons_succ, List.cons_append, List.nil_append, List.append_nil, List.replicate, List.length_cons, List.length_nil, List.map_cons, List.map_nil, Nat.reduceAdd, Nat.reduceSub, Nat.add_one_sub_one,
    true_and, and_true, if_true, if_false, Bool.false_eq_true, Bool.not_true, Bool.not_false, reduceIte, ite_true, ite_false, decide_true, decide_false])
namespace Tk
abbrev errs : List (Str × Str) := [("BadColumn", "value"), ("BadRanges", "value"), ("BadFlag", "value")]
def C_are_within : WE := fun args Q => ∃ R : RS, args = [.fro (rsD R)] ∧ Canon R ∧ ∀ b : Bool, (b = true ↔ Within (-9999) 9999 R) → Q (.fro (.bl b)) args
def TakenD (d : D) : Prop := ∃ R : RS, d = rsD R ∧ CondIn R
def C_is_taken_set : WE := fun args Q => ∃ d, args = [.fro d] ∧ AnyOk d ∧ ∀ b : Bool, (b = true ↔ TakenD d) → Q (.fro (.bl b)) args
def quesC (c : Str) (R : RS) (m : Bool) : O := .obj "Question" [("tree", condD c R m), ("column_list", .lst [.str c]), ("string", .str (condT c R m))]
def X_where : WDX := fun ex args Q => ∃ a s m : D, args = [.fro a, .fro s, .fro m] ∧ AnyOk a ∧ AnyOk s ∧ AnyOk m ∧
  (colB a = false → ex "BadColumn" "value" a) ∧ (colB a = true → ¬ TakenD s → ex "BadRanges" "value" s) ∧ (colB a = true → TakenD s → isBlD m = false → ex "BadFlag" "value" m) ∧
  ∀ (c : Str) (R : RS) (b : Bool), a = .str c → s = rsD R → m = .bl b → colB a = true → CondIn R → Q (.own false (quesC c R b)) args
def w_are_within : WS := (wRet (wOrV (wOp gEqNil (wVar 0) (wTup [])) (wAndV (wOp gLe (wC k_LEAST_conditions) (wOp gIx (wOp gIx (wVar 0) (wC (.int 0))) (wC (.int 0)))) (wOp gLe (wOp gIx (wOp gIx (wVar 0) (wNeg (wC (.int 1)))) (wC (.int 1))) (wC k_GREATEST_conditions)))))
def w_is_taken_set : WS := (wRet (wAndV (wCall C_is_ranges [(wVar 0)]) (wAndV (wOp gLe (wCB gLen [(wVar 0)]) (wC k_MOST_PAIRS)) (wCall C_are_within [(wVar 0)]))))
def wx_where : WSX := (wSeqX (wIfX (wNot (wB (wCall C_is_column [(wVar 0)]))) (wRaise "BadColumn" "value" (wVar 0)) (wLift wNext))
  (wSeqX (wIfX (wNot (wB (wCall C_is_taken_set [(wVar 1)]))) (wRaise "BadRanges" "value" (wVar 1)) (wLift wNext))
  (wSeqX (wIfX (wNot (wB (wCB gIsi [(wVar 2), (wC (.raw (.ty "bool")))]))) (wRaise "BadFlag" "value" (wVar 2)) (wLift wNext))
  (wLift (wRet (wMake "Question" C_Question___init__ [(wTup [(wC k_CONDITION), (wVar 0), (wVar 1), (wVar 2)])]))))))
theorem rs_of {d : D} (h : isRsD d = true) : ∃ rs, d = rsD rs ∧ Canon rs := by
  cases d with
  | tup ds =>
    have h' : (ds.all isPairD && apart ds) = true := h
    rw [Bool.and_eq_true] at h'
    obtain ⟨ps, rfl, ok⟩ := pairs_of_all (List.all_eq_true.mp h'.1)
    exact ⟨ps, rfl, canon_of_apart ok h'.2⟩
  | _ => cases h
theorem pairD_map_inj : ∀ {a b : RS}, a.map pairD = b.map pairD → a = b
  | [], [], _ => rfl
  | [], _ :: _, h => by cases h
  | _ :: _, [], h => by cases h
  | p :: a, q :: b, h => by
    rw [List.map_cons, List.map_cons] at h
    have h0 := List.cons.inj h
    have h1 := D.tup.inj h0.1
    have h2 := D.int.inj (List.cons.inj h1).1
    have h3 := D.int.inj (List.cons.inj (List.cons.inj h1).2).1
    rw [pairD_map_inj h0.2, Prod.ext h2 h3]
theorem rsD_inj {a b : RS} (h : rsD a = rsD b) : a = b := by
  have h1 : a.map pairD = b.map pairD := D.tup.inj h
  exact pairD_map_inj h1
theorem ranges_any {d : D} (h : AnyOk d) {Q : Dl.Slot → List Dl.Slot → Prop} (hq : Q (.fro (.bl (isRsD d))) [.fro d]) : C_is_ranges [.fro d] Q := by
  refine ⟨d, rfl, h.typed, fun ds e => ?_, hq⟩
  subst e
  obtain ⟨h1, h2⟩ := h.tup
  refine ⟨by omega, fun e he => ⟨(h2 e he).typed, fun x y e' => ?_⟩⟩
  subst e'
  have h3 := (h2 _ he).tup.2
  exact ⟨(h3 x (by simp)).typed, (h3 y (by simp)).typed⟩
theorem within_ends {p q : Int × Int} {r ys : RS} (c : Canon (p :: r)) (h : p :: r = ys ++ [q]) : Within (-9999) 9999 (p :: r) ↔ -9999 ≤ p.1 ∧ q.2 ≤ 9999 := by
  refine ⟨fun w => ⟨(w p (by simp)).1, (w q (by rw [h]; simp)).2⟩, fun ⟨h1, h2⟩ x hx => ⟨?_, ?_⟩⟩
  · rcases List.mem_cons.mp hx with rfl | hx
    · exact h1
    · have g := (List.pairwise_cons.mp c.gap).1 x hx
      have := c.ok p (by simp)
      unfold Gap at g
      omega
  · rw [h] at hx
    rcases List.mem_append.mp hx with hx | hx
    · have g : Gap x q := by
        have := c.gap
        rw [h] at this
        exact (List.pairwise_append.mp this).2.2 x hx q (by simp)
      have := c.ok q (by rw [h]; simp)
      unfold Gap at g
      omega
    · rw [List.mem_singleton.mp hx]; exact h2
theorem ok_are_within (args : List Dl.Slot) (Q : Dl.Slot → List Dl.Slot → Prop) (hl : args.length = 1) (h : C_are_within args Q) : noOwn args ∧ w_are_within (endsOf args Q) (args ++ List.replicate (1 - 1) .nil) := by
  obtain ⟨R, rfl, hc, hq⟩ := h
  refine ⟨noOwn1 _, ?_⟩
  unfold w_are_within rsD
  cases R with
  | nil =>
    walk_at "dl"
    exact ⟨by decide, by rw [if_pos (show ([] : List D).isEmpty = true from rfl)]; exact hq true ⟨fun _ p hp => absurd hp List.not_mem_nil, fun _ => rfl⟩⟩
  | cons p r =>
    rcases List.eq_nil_or_concat (p :: r) with h | ⟨ys, q, h⟩
    · cases h
    rw [List.concat_eq_append] at h
    have hw := within_ends hc h
    have hq2 := hq (decide (-9999 ≤ p.1) && decide (q.2 ≤ 9999)) (by rw [hw, Bool.and_eq_true, decide_eq_true_eq, decide_eq_true_eq])
    unfold rsD at hq2
    rw [List.map_cons] at hq2 ⊢
    walk_at "dl"
    unfold pairD at hq2 ⊢
    walk_at "dl"
    have e : atI (D.tup [.int p.1, .int p.2] :: r.map pairD) (-1) = some (pairD q) := by
      show atI ((p :: r).map pairD) (-1) = _
      rw [h]; exact at_rsl
    unfold pairD at e
    refine ⟨by decide, ?_⟩
    rw [if_neg (by simp)]
    by_cases h1 : -9999 ≤ p.1
    · rw [decide_eq_true h1] at hq2 ⊢
      rw [e]
      walk_at "dl"
      exact hq2
    · rw [decide_eq_false h1] at hq2 ⊢
      walk_at "dl"
      exact hq2
theorem ok_is_taken_set (args : List Dl.Slot) (Q : Dl.Slot → List Dl.Slot → Prop) (hl : args.length = 1) (h : C_is_taken_set args Q) : noOwn args ∧ w_is_taken_set (endsOf args Q) (args ++ List.replicate (1 - 1) .nil) := by
  obtain ⟨d, rfl, ha, hq⟩ := h
  refine ⟨noOwn1 _, ?_⟩
  unfold w_is_taken_set
  walk_at "dl"
  refine ranges_any ha ?_
  cases hr : isRsD d with
  | false =>
    walk_at "dl"
    exact hq false ⟨fun z => (nomatch z), fun ⟨R, e, c⟩ => by rw [e, isRs_canon c.can] at hr; cases hr⟩
  | true =>
    obtain ⟨R, rfl, hc⟩ := rs_of hr
    walk_at "dl"
    unfold rsD at hq ⊢
    walk_at "dl"
    rw [List.length_map]
    by_cases h4 : ((R.length : Nat) : Int) ≤ 4
    · rw [decide_eq_true h4]
      walk_at "dl"
      refine ⟨R, rfl, hc, fun b hb => ?_⟩
      refine hq b (hb.trans ⟨fun w => ⟨R, rfl, ⟨hc, by omega⟩, w⟩, fun ⟨R', e, c⟩ => ?_⟩)
      have := rsD_inj e
      subst this
      exact c.ins
    · rw [decide_eq_false h4]
      walk_at "dl"
      refine hq false ⟨fun z => (nomatch z), fun ⟨R', e, c⟩ => ?_⟩
      have := rsD_inj e
      subst this
      exact absurd (by have := c.len; omega) h4
theorem okx_where (args : List Dl.Slot) (ex : XD) (Q : Dl.Slot → List Dl.Slot → Prop) (hl : args.length = 3) (af : allFro args) (h : X_where ex args Q) : wx_where (fun c f v _ => ex c f v) (endsOf args Q) (args ++ List.replicate (3 - 3) .nil) := by
  obtain ⟨a, s, m, rfl, ha, hs, hm, h1, h2, h3, hq⟩ := h
  unfold wx_where
  walk_at "dl"
  refine ⟨a, rfl, ha, ?_⟩
  cases hc : colB a with
  | false =>
    walk_at "dl"
    exact h1 hc
  | true =>
    walk_at "dl"
    refine ⟨s, rfl, hs, fun b hb => ?_⟩
    cases b with
    | false =>
      walk_at "dl"
      exact h2 hc fun z => Bool.false_ne_true (hb.2 z)
    | true =>
      have ht := hb.1 rfl
      walk_at "dl"
      rw [isD_bool hm.typed]
      cases hbl : isBlD m with
      | false =>
        walk_at "dl"
        exact h3 hc ht hbl
      | true =>
        obtain ⟨R, rfl, cR⟩ := ht
        obtain ⟨b, rfl⟩ : ∃ b, m = .bl b := by
          cases m with
          | bl b => exact ⟨b, rfl⟩
          | _ => cases hbl
        obtain ⟨c, rfl⟩ : ∃ c, a = .str c := by
          cases a with
          | str c => exact ⟨c, rfl⟩
          | _ => cases hc
        have hl8 : c.length ≤ 8 := by
          have e : colB (.str c) = ((decide (1 ≤ (c.length : Int)) && decide ((c.length : Int) ≤ 8)) && (!inD (.str c) [.str "and", .str "or"] && c.cps.toList.all smallB)) := rfl
          rw [e, Bool.and_eq_true, Bool.and_eq_true, decide_eq_true_eq, decide_eq_true_eq] at hc
          omega
        walk_at "dl"
        refine ⟨by decide, c, R, b, rfl, hl8, cR, ?_⟩
        walk_at "dl"
        exact hq c R b rfl rfl rfl hc cR
end Tk
end Lw
namespace Lw
open PySem L2 Dl Rs
namespace Tk
theorem char_lt (k : Char) : k.toNat < 0x110000 := by
  have := k.valid
  unfold UInt32.isValidChar Nat.isValidChar at this
  show k.val.toNat < _
  omega
theorem repr_lt {q c : Nat} (hq : q < 0x110000) (hc : c < 0x110000) : ∀ x ∈ PySem.Builtin.Str.reprChar q c, x < 0x110000 := by
  have hex : ∀ w : Nat, ∀ x ∈ (List.replicate (w - ((Nat.toDigits 16 c).map Char.toNat).length) 48 ++ (Nat.toDigits 16 c).map Char.toNat), x < 0x110000 := fun w x hx => by
    rcases List.mem_append.mp hx with h | h
    · rw [List.eq_of_mem_replicate h]; decide
    · obtain ⟨k, _, rfl⟩ := List.mem_map.mp h
      exact char_lt k
  have pre : ∀ (a b w : Nat), a < 0x110000 → b < 0x110000 → ∀ x ∈ [a, b] ++ (List.replicate (w - ((Nat.toDigits 16 c).map Char.toNat).length) 48 ++ (Nat.toDigits 16 c).map Char.toNat), x < 0x110000 := fun a b w ha hb x hx => by
    rcases List.mem_append.mp hx with h | h
    · simp only [List.mem_cons, List.not_mem_nil, or_false] at h
      rcases h with rfl | rfl
      · exact ha
      · exact hb
    · exact hex w x h
  have two : ∀ a b : Nat, a < 0x110000 → b < 0x110000 → ∀ x ∈ [a, b], x < 0x110000 := fun a b ha hb x hx => by
    simp only [List.mem_cons, List.not_mem_nil, or_false] at hx
    rcases hx with rfl | rfl
    · exact ha
    · exact hb
  unfold PySem.Builtin.Str.reprChar
  dsimp only
  split
  · exact two _ _ (by decide) hc
  split
  · exact two _ _ (by decide) (by decide)
  split
  · exact two _ _ (by decide) (by decide)
  split
  · exact two _ _ (by decide) (by decide)
  split
  · intro x hx; rw [List.mem_singleton.mp hx]; exact hc
  split
  · exact pre _ _ _ (by decide) (by decide)
  split
  · exact pre _ _ _ (by decide) (by decide)
  · exact pre _ _ _ (by decide) (by decide)
theorem fold_lt {q : Nat} (hq : q < 0x110000) : ∀ (l : List Nat) (acc : Array Nat), (∀ c ∈ l, c < 0x110000) → (∀ c ∈ acc.toList, c < 0x110000) → ∀ c ∈ (l.foldl (fun out c => out ++ (PySem.Builtin.Str.reprChar q c).toArray) acc).toList, c < 0x110000
  | [], acc, _, h => h
  | x :: l, acc, h1, h2 => by
    rw [List.foldl_cons]
    refine fold_lt hq l _ (fun c hc => h1 c (List.mem_cons_of_mem _ hc)) fun c hc => ?_
    rw [Array.toList_append] at hc
    rcases List.mem_append.mp hc with h | h
    · exact h2 c h
    · exact repr_lt hq (h1 x (List.mem_cons_self ..)) c (by simpa using h)
theorem okS_repr {x : Str} (h : okS x) : okS (reprText x) := by
  rw [okS_iff] at *
  have hq : reprQuote x < 0x110000 := by unfold reprQuote; split <;> decide
  intro c hc
  unfold reprText at hc
  rw [Array.toList_push, ← Array.foldl_toList] at hc
  rcases List.mem_append.mp hc with h' | h'
  · refine fold_lt hq x.cps.toList _ h (fun c hc => ?_) c h'
    have hc : c ∈ [reprQuote x] := hc
    rw [List.mem_singleton.mp hc]; exact hq
  · rw [List.mem_singleton.mp h']; exact hq
theorem okS_join {sep : Str} (hs : okS sep) : ∀ ts : List Str, (∀ t ∈ ts, okS t) → okS (Str.join sep ts)
  | [], _ => okS_of ""
  | [x], h => h x (by simp)
  | x :: y :: r, h => okS_append (okS_append (h x (by simp)) hs) (okS_join hs (y :: r) fun t ht => h t (List.mem_cons_of_mem _ ht))
theorem okS_from : ∀ (ts : List Str) (k : Nat) (acc : Str), okS acc → (∀ t ∈ ts, okS t) → okS (textFrom k acc ts)
  | [], _, _, h, _ => h
  | t :: ts, k, acc, h, ht => okS_from ts (k + 1) _ (okS_append (okS_append h (okS_of _)) (ht t (List.mem_cons_self ..))) fun u hu => ht u (List.mem_cons_of_mem _ hu)
mutual
/-- data whose texts are of signs -/
def clnD : D → Bool
  | .tup ds => clnL ds
  | .lst ds => clnL ds
  | .dct kvs => clnK kvs
  | .str x => x.cps.all fun c => decide (c < 0x110000)
  | .arg _ => false
  | _ => true
def clnL : List D → Bool
  | [] => true
  | d :: ds => clnD d && clnL ds
def clnK : List (L2.Key × D) → Bool
  | [] => true
  | (.inl _, d) :: r => clnD d && clnK r
  | (.inr x, d) :: r => (x.cps.all fun c => decide (c < 0x110000)) && (clnD d && clnK r)
end
mutual
theorem okS_shown : ∀ {d : D}, clnD d = true → okS (pyD d).shown
  | .non, _ => okS_of _
  | .bl b, _ => by cases b <;> exact okS_of _
  | .int i, _ => okS_of _
  | .str x, h => okS_repr h
  | .tup ds, h => by
    have h1 := okS_shownL (ds := ds) (by simpa [clnD] using h)
    show okS (tupleText (PyData.shownAll (pyL ds)))
    unfold tupleText
    exact okS_append (okS_append (okS_of _) (okS_join (okS_of _) _ h1)) (okS_of _)
  | .lst ds, h => by
    have h1 := okS_shownL (ds := ds) (by simpa [clnD] using h)
    show okS (listText (PyData.shownAll (pyL ds)))
    unfold listText
    exact okS_append (okS_from _ _ _ (okS_of _) h1) (okS_of _)
  | .dct kds, h => by
    have h1 := okS_shownK (kds := kds) (by simpa [clnD] using h)
    show okS (dictText (PyData.shownKv (pyK kds)))
    unfold dictText
    exact okS_append (okS_append (okS_of _) (okS_join (okS_of _) _ h1)) (okS_of _)
  | .raw _, _ => okS_of _
  | .tix _, _ => okS_of _
  | .obj _ _, _ => okS_of _
  | .exc _ _ _, _ => okS_of _
  | .fn _ _ _ _ _, _ => okS_of _
theorem okS_shownL : ∀ {ds : List D}, clnL ds = true → ∀ t ∈ PyData.shownAll (pyL ds), okS t
  | [], _, t, h => nomatch h
  | d :: ds, h, t, ht => by
    unfold clnL at h
    rw [Bool.and_eq_true] at h
    rcases List.mem_cons.mp ht with rfl | ht
    · exact okS_shown h.1
    · exact okS_shownL h.2 t ht
theorem okS_shownK : ∀ {kds : List (L2.Key × D)}, clnK kds = true → ∀ t ∈ PyData.shownKv (pyK kds), okS t
  | [], _, t, h => nomatch h
  | (.inl i, d) :: r, h, t, ht => by
    unfold clnK at h
    rw [Bool.and_eq_true] at h
    rcases List.mem_cons.mp ht with rfl | ht
    · exact okS_append (okS_append (okS_of _) (okS_of _)) (okS_shown h.1)
    · exact okS_shownK h.2 t ht
  | (.inr x, d) :: r, h, t, ht => by
    unfold clnK at h
    rw [Bool.and_eq_true, Bool.and_eq_true] at h
    rcases List.mem_cons.mp ht with rfl | ht
    · exact okS_append (okS_append (okS_repr h.1) (okS_of _)) (okS_shown h.2.1)
    · exact okS_shownK h.2.2 t ht
end
end Tk
end Lw
namespace Lw
open PySem L2 Dl Rs
local macro_rules | `(tactic| walk_at "dl") => `(tactic| try simp (config := { maxSteps := 400000 }) only [gNotInX, gIxK, gNotInK, gInK, wFld, wUnM, back1, Dl.isObj, gIsN, gAny, gAll, gNotN, wSeqX, wIfX, wLift, wLiftE, wRetX, wDropX, wCallX, wRaise, wTupX, wCallA, wCallXK, wCallXPK, wLam, capt, viewL, lamOf, wAct, wTry, wExcF, wIsExc, wIsExcN, wSetX, endsNil, wMake, gInt1, wJoin, wK, lcBody, wipeD, back, lcBody, wipeD, back, Option.getD_some, wSeq, wIfS, wAnd, wOr, wNot, wRet, wDrop, wNext, wBrk, wCnt, wAndV, wOrV, wNotV, wB, wIf, wCB, wArgs, wVar, wC, wTup, wLst, wOp, wChain, wNeg, wSl, wP, wNoP, wSet, wPar, wAsg, wCall, wCallP, wCallN, wApp, wExt, wMt, gApp, gExt, wSetIx, wSeqI, wRng1, wRng2, wZip, wEnum, wFor, withL, lookL, lookD, with2, frz, frzL, prep, put, notLent, kindO, gTp, gNms, gNm, O.d, itemsOf, leave, endsOf, outsOf, clean, wYes, wK, CE.s, wDct0, wDct1, wRev, wRev2, wPop, wSortSet, wSortSet2, gEqNil, gNotB, wParN, wTupAsg, prepL, putL, wEnum2, wCallK, perm, gIsB, gRepr, List.getD_cons_zero, List.getD_cons_succ, wFg, wFgL, fgs, fg1, wFz, fzs, fz1, gTpG, gAllT, wTupS, wLstS, wArgsS, wLenSet, gIn_tup, gIn_lst, gNotIn_tup, gNotIn_lst, gEq_int, gNe_int, gEq_str, gNe_str,
    gI, gIC, Dl.gSub, gFdiv, gMod, gPow, gLt, gLe, gGt, gGe, gAdd, gMul, gIsN, gNotN, Dl.isNon, gIx, gSl, gLen, gAbs, gInt1, gMax2, gMin2, gTuple, gList, gIsi, atI_0, atI_1, atI_2, atI_m1, ixN_30, ixN_32,
    List.getElem?_cons_zero, List.getElem?_cons_succ, List.set_cons_zero, List.set_cons_succ, List.cons_append, List.nil_append, List.append_nil, List.replicate, List.length_cons, List.length_nil, List.map_cons, List.map_nil, Nat.reduceAdd, Nat.reduceSub, Nat.add_one_sub_one,
    true_and, and_true, if_true, if_false, Bool.false_eq_true, Bool.not_true, Bool.not_false, reduceIte, ite_true, ite_false, decide_true, decide_false])
namespace Tk
def C__law_is_name : WE := fun args Q => ∃ d, args = [.fro d] ∧ AnyOk d ∧ Q (.fro (.bl (colB d))) args
abbrev C__law_is_integer : WE := C_is_integer
def C__law_is_set : WE := fun args Q => ∃ d, args = [.fro d] ∧ showD d = true ∧ (∀ ds, d = .tup ds → ds.length ≤ 1000000) ∧ Q (.fro (.bl (isRsD d))) [.fro d]
def C__law_odd : WE := fun args Q => ∃ (n : Int) (o : O), args = [.own true o] ∧ Pot n o ∧ n < 7000000 ∧ ∀ d o', Fine 12000 40 d → clnD d = true → Pot (n + 12) o' → Q (.fro d) [.own true o']
def C__law_con_text : WE := fun args Q => ∃ (c : Str) (R : RS) (m : Bool), args = [.fro (.tup [.str "con", .str c, rsD R, .bl m])] ∧ c.length ≤ 8 ∧ CondIn R ∧ Q (.fro (.str (condT c R m))) args
def wb__law_odd_1 : WS := (wSet 2 (wCallP C__law_any 0 [(wLst [(wTup [(wVar 2)]), (wLst [(wVar 2)]), (wDct1 "a" (wVar 2)), (wTup [(wVar 2), (wVar 2)]), (wTup [(wC (.int 1)), (wVar 2)])])]))
def wr__law_odd_2 : WS := (wRet (wVar 2))
def wr__law_odd_3 : WS := (wSeq (wFor (wRng1 [(wCallP C__law_any 0 [(wK (.lst [(.int 0), (.int 0), (.int 0), (.int 1), (.int 2), (.int 9)]))])]) (gNm 3) wb__law_odd_1)
  wr__law_odd_2)
def wr__law_odd_4 : WS := (wSeq (wSet 2 (wCallP C__law_any 0 [(wVar 1)]))
  wr__law_odd_3)
def wr__law_odd_5 : WS := (wSeq (wSet 1 (wOp gAdd (wVar 1) (wK (.lst [(.lst []), .dct0, (.tup [(.int 0), (.int 1)]), (.tup [(.tup [(.int 0), (.int 1)])]), (.lst [(.tup [(.int 0), (.int 1)])]), (.tup [(.tup [(.int 1), (.int 0)])]), (.tup [(.tup [(.int 0), (.bl true)])]), (.tup [(.tup [(.int 0), (.int 1)]), (.tup [(.int 2), (.int 3)])]), (.tup [(.tup [(.int 0), (.int 1), (.int 2)])])]))))
  wr__law_odd_4)
def w__law_odd : WS := (wSeq (wSet 1 (wK (.lst [.non, (.bl true), (.bl false), (.int 0), (.int 1), (.neg 1), (.pow 10 30), (.str ""), (.str "a"), (.str "and"), (.str "or"), (.str "A"), (.str "ab"), (.str "abcdefgh"), (.str "abcdefghi"), (.tup [])])))
  wr__law_odd_5)
def w__law_is_integer : WS := (wRet (wAndV (wCB gIsi [(wVar 0), (wC (.raw (.ty "int")))]) (wNotV (wCB gIsi [(wVar 0), (wC (.raw (.ty "bool")))]))))
def wb__law_is_set_1 : WS := (wIfS (wOr (wNot (wB (wCB gIsi [(wVar 1), (wC (.raw (.ty "tuple")))]))) (wOr (wB (wOp gNe (wCB gLen [(wVar 1)]) (wC (.int 2)))) (wNot (wB (wCB gAll [(wLc (wSeqI (wVar 1)) (gNm 2) wYes (wCall C__law_is_integer [(wVar 2)]) [2])]))))) (wRet (wC (.bl false))) wNext)
def wr__law_is_set_2 : WS := (wRet (wCB gAll [(wLc (wRng1 [(wOp gSub (wCB gLen [(wVar 0)]) (wC (.int 1)))]) (gNm 5) wYes (wOp gLe (wOp gAdd (wOp gIx (wOp gIx (wVar 0) (wVar 5)) (wC (.int 1))) (wC (.int 2))) (wOp gIx (wOp gIx (wVar 0) (wOp gAdd (wVar 5) (wC (.int 1)))) (wC (.int 0)))) [5])]))
def wr__law_is_set_3 : WS := (wSeq (wIfS (wNot (wB (wCB gAll [(wLc (wSeqI (wVar 0)) (gTp [3, 4]) wYes (wOp gLe (wVar 3) (wVar 4)) [3, 4])]))) (wRet (wC (.bl false))) wNext)
  wr__law_is_set_2)
def wr__law_is_set_4 : WS := (wSeq (wFor (wSeqI (wVar 0)) (gNm 1) wb__law_is_set_1)
  wr__law_is_set_3)
def w__law_is_set : WS := (wSeq (wIfS (wNot (wB (wCB gIsi [(wVar 0), (wC (.raw (.ty "tuple")))]))) (wRet (wC (.bl false))) wNext)
  wr__law_is_set_4)
def wr__law_is_name_1 : WS := (wRet (wCB gAll [(wLc (wSeqI (wVar 0)) (gNm 1) wYes (wOp gIn (wVar 1) (wC (.str "abcdefghijklmnopqrstuvwxyz"))) [1])]))
def w__law_is_name : WS := (wSeq (wIfS (wOr (wNot (wB (wCB gIsi [(wVar 0), (wC (.raw (.ty "str")))]))) (wOr (wNot (wB (wChain gLe gLe (wC (.int 1)) (wCB gLen [(wVar 0)]) (wC (.int 8))))) (wB (wOp gIn (wVar 0) (wTup [(wC (.str "and")), (wC (.str "or"))]))))) (wRet (wC (.bl false))) wNext)
  wr__law_is_name_1)
def wr__law_con_text_1 : WS := (wRet (wOp gAdd (wOp gAdd (wOp gIx (wVar 0) (wC (.int 1))) (wC (.str "="))) (wIf (wB (wOp gNe (wVar 1) (wLst []))) (wJoin (wC (.str ",")) (wVar 1)) (wC (.str "-")))))
def wr__law_con_text_2 : WS := (wSeq (wFz [1] (wSet 1 (wOp gAdd (wVar 1) (wOp gMul (wLst [(wC (.str "?"))]) (wCB gInt1 [(wOp gIx (wVar 0) (wC (.int 3)))])))))
  wr__law_con_text_1)
def w__law_con_text : WS := (wSeq (wFz [1] (wSet 1 (wLc (wSeqI (wOp gIx (wVar 0) (wC (.int 2)))) (gTp [2, 3]) wYes (wIf (wB (wOp gEq (wVar 2) (wVar 3))) (wCB gStr [(wVar 2)]) (wOp gAdd (wOp gAdd (wCB gStr [(wVar 2)]) (wC (.str ".."))) (wCB gStr [(wVar 3)]))) [2, 3])))
  wr__law_con_text_2)
theorem ok__law_is_name (args : List Dl.Slot) (Q : Dl.Slot → List Dl.Slot → Prop) (hl : args.length = 1) (h : C__law_is_name args Q) : noOwn args ∧ w__law_is_name (endsOf args Q) (args ++ List.replicate (2 - 1) .nil) := by
  obtain ⟨d, rfl, ha, hq⟩ := h
  refine ⟨noOwn1 _, ?_⟩
  unfold w__law_is_name
  walk_at "dl"
  simp only [isD_str ha.typed]
  cases d with
  | str x =>
    simp only [isStrD]
    walk_at "dl"
    refine ⟨Nat.le_trans ha.str (by decide), ?_⟩
    have e : colB (.str x) = ((decide (1 ≤ (x.length : Int)) && decide ((x.length : Int) ≤ 8)) && (!inD (.str x) [.str "and", .str "or"] && x.cps.toList.all smallB)) := rfl
    rw [e] at hq
    cases h1 : decide (1 ≤ (x.length : Int)) with
    | false => rw [h1] at hq; exact hq
    | true =>
      rw [h1] at hq
      walk_at "dl"
      cases h2 : decide ((x.length : Int) ≤ 8) with
      | false => rw [h2] at hq; exact hq
      | true =>
        rw [h2] at hq
        walk_at "dl"
        refine ⟨by decide, rfl, rfl, ?_⟩
        cases h3 : inD (.str x) [.str "and", .str "or"] with
        | true => rw [h3] at hq; exact hq
        | false =>
          rw [h3] at hq
          unfold wr__law_is_name_1 wLc
          walk_at "dl"
          refine lc_map (wi := wSeqI (wVar 0)) signB (signs x) ?_ (fun d hd k1 k0 hk => ?_) ?_
          · unfold signs; rw [List.length_map, Array.length_toList]; exact Nat.le_trans ha.str (by decide)
          · obtain ⟨c, _, rfl⟩ := List.mem_map.mp hd
            walk_at "dl"
            exact ⟨c, rfl, hk⟩
          · have e2 : (signs x).map signB = x.cps.toList.map fun c => D.bl (smallB c) := by
              unfold signs; rw [List.map_map]; rfl
            rw [e2]
            simp only [gAll, boolsOf_smallB, all_map_id]
            exact hq
  | _ => exact hq
theorem ok__law_is_integer (args : List Dl.Slot) (Q : Dl.Slot → List Dl.Slot → Prop) (hl : args.length = 1) (h : C__law_is_integer args Q) : noOwn args ∧ w__law_is_integer (endsOf args Q) (args ++ List.replicate (1 - 1) .nil) := ok_is_integer args Q hl h
def intPair : D → Bool
  | .tup [.int _, .int _] => true
  | _ => false
theorem int_of_pair {d : D} (h : isPairD d = true) : intPair d = true := by
  unfold isPairD at h
  split at h
  · rfl
  · cases h
theorem pair_int {d : D} (h : intPair d = false) : isPairD d = false := by
  cases e : isPairD d with
  | false => rfl
  | true => rw [int_of_pair e] at h; cases h
theorem intPair_eq {d : D} (h : intPair d = true) : ∃ p : Int × Int, d = pairD p := by
  unfold intPair at h
  split at h
  · rename_i a b; exact ⟨(a, b), rfl⟩
  · cases h
theorem boolsOf_isInt (ds : List D) : boolsOf (ds.map fun d => D.bl (isIntD d)) = some (ds.map isIntD) := boolsOf_map isIntD ds
theorem body_set {KD : DEnds} {a0 : D} {e : D} {s2 s3 s4 s5 : Dl.Slot} (he : showD e = true) (n2 : nilOr s2)
    (h0 : intPair e = false → KD.rt (.fro (.bl false)) [.fro a0, .fro e, s2, s3, s4, s5]) (h1 : intPair e = true → KD.nx [.fro a0, .fro e, s2, s3, s4, s5]) : wb__law_is_set_1 KD [.fro a0, .fro e, s2, s3, s4, s5] := by
  unfold wb__law_is_set_1
  walk_at "dl"
  simp only [isD_tuple (show_typed he)]
  cases e with
  | tup ds =>
    simp only [isTupD]
    walk_at "dl"
    by_cases hn : ds.length = 2
    · match ds, hn with
      | [x, y], _ =>
        have hL : showL [x, y] = true := by simpa [showD] using he
        rw [show (!decide (((([x, y] : List D).length : Nat) : Int) = 2)) = false from rfl]
        walk_at "dl"
        unfold wLc
        walk_at "dl"
        refine ⟨by rcases n2 with rfl | ⟨_, rfl⟩ <;> trivial, lcl_all (f := fun d => .bl (isIntD d)) (P := fun d => d ∈ [x, y]) 1000000 (Nat.le_refl _) (fun z hz acc k1 k0 hk => ?_) [x, y] [] (fun z hz => hz) (by show 2 ≤ 1000000; decide) ?_⟩
        · refine ⟨trivial, ?_⟩
          walk_at "dl"
          exact ⟨z, rfl, show_typed (showL_mem hL z hz), hk⟩
        · rw [List.nil_append]
          simp only [gAll, boolsOf_isInt]
          have e2 : ([x, y].map isIntD).all id = intPair (.tup [x, y]) := by
            cases x <;> cases y <;> rfl
          rw [e2]
          cases hip : intPair (.tup [x, y]) with
          | true => exact h1 hip
          | false => exact h0 hip
    · have e2 : (!decide (((ds.length : Nat) : Int) = 2)) = true := by
        rw [decide_eq_false (by omega)]; rfl
      rw [e2]
      walk_at "dl"
      refine h0 ?_
      match ds, hn with
      | [], _ => rfl
      | [x], _ => cases x <;> rfl
      | x :: y :: z :: r, _ => cases x <;> cases y <;> rfl
  | _ =>
    simp only [isTupD]
    walk_at "dl"
    exact h0 rfl
theorem loop_set {KD : DEnds} {a0 : D} {s3 s4 s5 : Dl.Slot} : ∀ (ds : List D) (s1 s2 : Dl.Slot), isFree s1 → nilOr s2 → showL ds = true →
    (∀ ρ, ds.all intPair = false → KD.rt (.fro (.bl false)) (.fro a0 :: ρ)) → (∀ s1 s2, isFree s1 → nilOr s2 → ds.all intPair = true → KD.nx [.fro a0, s1, s2, s3, s4, s5]) →
    loop (gNm 1) wb__law_is_set_1 KD ds [.fro a0, s1, s2, s3, s4, s5]
  | [], s1, s2, f1, n2, _, h0, h1 => h1 s1 s2 f1 n2 rfl
  | e :: ds, s1, s2, f1, n2, hL, h0, h1 => by
    unfold showL at hL
    rw [Bool.and_eq_true] at hL
    rw [loop_cons]
    refine ⟨notLent_free (s := s1) rfl f1, ?_⟩
    refine body_set hL.1 n2 (fun hf => h0 _ (by rw [List.all_cons, hf]; rfl)) fun ht => ?_
    refine loop_set ds _ s2 trivial n2 hL.2 (fun ρ hf => h0 ρ (by rw [List.all_cons, ht, hf]; rfl)) fun t1 t2 g1 g2 ha => h1 t1 t2 g1 g2 (by rw [List.all_cons, ht, ha]; rfl)
theorem pairs_of_int : ∀ {ds : List D}, ds.all intPair = true → ∃ ps : RS, ds = ps.map pairD
  | [], _ => ⟨[], rfl⟩
  | d :: ds, h => by
    rw [List.all_cons, Bool.and_eq_true] at h
    obtain ⟨p, rfl⟩ := intPair_eq h.1
    obtain ⟨ps, rfl⟩ := pairs_of_int h.2
    exact ⟨p :: ps, rfl⟩
theorem boolsOf_le (ps : RS) : boolsOf (ps.map fun p => D.bl (decide (p.1 ≤ p.2))) = some (ps.map fun p => decide (p.1 ≤ p.2)) := boolsOf_map (fun p : Int × Int => decide (p.1 ≤ p.2)) ps
def leD : D → D
  | .tup [.int a, .int b] => .bl (decide (a ≤ b))
  | _ => .non
theorem apart_at : ∀ ps : RS, apart (ps.map pairD) = ((List.range (ps.length - 1)).map fun i => decide ((ps.getD i (0, 0)).2 + 2 ≤ (ps.getD (i + 1) (0, 0)).1)).all id
  | [] => rfl
  | [p] => rfl
  | p :: q :: r => by
    have ih := apart_at (q :: r)
    have e : apart ((p :: q :: r).map pairD) = (decide (p.2 + 1 < q.1) && apart ((q :: r).map pairD)) := rfl
    rw [e, ih]
    simp only [List.length_cons, Nat.add_sub_cancel, List.range_succ_eq_map, List.map_cons, List.map_map, List.all_cons, id]
    have h1 : decide (p.2 + 1 < q.1) = decide ((List.getD (p :: q :: r) 0 (0, 0)).2 + 2 ≤ (List.getD (p :: q :: r) (0 + 1) (0, 0)).1) := by
      show decide (p.2 + 1 < q.1) = decide (p.2 + 2 ≤ q.1)
      exact decide_eq_decide.mpr (by omega)
    rw [h1]
    congr 1
theorem at_getD {ps : RS} {i : Nat} (h : i < ps.length) : atI (ps.map pairD) (i : Int) = some (.tup [.int (ps.getD i (0, 0)).1, .int (ps.getD i (0, 0)).2]) := by
  rw [List.getD_eq_getElem?_getD, List.getElem?_eq_getElem h]
  exact atI_pair h
def atD (ps : RS) : D → D
  | .int i => .bl (decide ((ps.getD i.toNat (0, 0)).2 + 2 ≤ (ps.getD (i.toNat + 1) (0, 0)).1))
  | _ => .non
theorem ok__law_is_set (args : List Dl.Slot) (Q : Dl.Slot → List Dl.Slot → Prop) (hl : args.length = 1) (h : C__law_is_set args Q) : noOwn args ∧ w__law_is_set (endsOf args Q) (args ++ List.replicate (6 - 1) .nil) := by
  obtain ⟨d, rfl, hs, hlen, hq⟩ := h
  refine ⟨noOwn1 d, ?_⟩
  unfold w__law_is_set
  generalize hK : endsOf [.fro d] Q = KD
  have hret : ∀ ρ b, b = isRsD d → KD.rt (.fro (.bl b)) (.fro d :: ρ) := fun ρ b e => by subst hK; subst e; exact hq
  clear hK hq
  walk_at "dl"
  simp only [isD_tuple (show_typed hs)]
  cases d with
  | tup ds =>
    simp only [isTupD]
    walk_at "dl"
    have hL : showL ds = true := by simpa [showD] using hs
    have hz := hlen ds rfl
    unfold wr__law_is_set_4
    walk_at "dl"
    refine loop_set ds _ _ trivial (.inl rfl) hL (fun ρ hf => hret ρ false ?_) fun s1 s2 f1 n2 ha => ?_
    · symm
      show (ds.all isPairD && apart ds) = false
      have : ds.all isPairD = false := by
        cases e : ds.all isPairD with
        | false => rfl
        | true =>
          have : ds.all intPair = true := List.all_eq_true.mpr fun x hx => by
            cases q : intPair x with
            | true => rfl
            | false => have := List.all_eq_true.mp e x hx; rw [pair_int q] at this; cases this
          rw [this] at hf; cases hf
      rw [this]; rfl
    · obtain ⟨ps, rfl⟩ := pairs_of_int ha
      dsimp only
      unfold wr__law_is_set_3 wLc
      walk_at "dl"
      refine lcl_all (f := leD) (P := fun d => ∃ p, d = pairD p) 1000000 (Nat.le_refl _) (fun x hx acc k1 k0 hk => ?_) _ [] (fun x hx => ?_) (by simpa using hz) ?_
      · obtain ⟨p, rfl⟩ := hx
        unfold pairD
        walk_at "dl"
        exact hk
      · obtain ⟨p, _, rfl⟩ := List.mem_map.mp hx
        exact ⟨p, rfl⟩
      rw [List.nil_append, List.map_map]
      have e : boolsOf (ps.map (leD ∘ pairD)) = some (ps.map fun p => decide (p.1 ≤ p.2)) := boolsOf_le ps
      simp only [gAll, e]
      cases hall : (ps.map fun p => decide (p.1 ≤ p.2)).all id with
      | false =>
        refine hret _ false ?_
        have : (ps.map pairD).all isPairD = false := by
          rw [List.all_map] at hall ⊢
          exact hall
        show false = ((ps.map pairD).all isPairD && apart (ps.map pairD))
        rw [this]; rfl
      | true =>
        walk_at "dl"
        unfold wr__law_is_set_2 wLc
        walk_at "dl"
        rw [List.length_map] at hz ⊢
        refine ⟨by omega, by omega, ?_⟩
        have hto : ((ps.length : Nat) - 1 : Int).toNat = ps.length - 1 := by omega
        rw [hto]
        refine lcl_all (f := atD ps) (P := fun d => ∃ i : Nat, d = .int i ∧ i + 1 < ps.length) 1000000 (Nat.le_refl _) (fun x hx acc k1 k0 hk => ?_) _ [] (fun x hx => ?_) (by unfold rangeD; simp only [List.length_map, List.length_range, List.length_nil]; omega) ?_
        · obtain ⟨i, rfl, hi⟩ := hx
          walk_at "dl"
          rw [at_getD (show i < ps.length by omega), show ((i : Int) + 1) = ((i + 1 : Nat) : Int) by omega, at_getD (show i + 1 < ps.length by omega)]
          walk_at "dl"
          exact hk
        · obtain ⟨i, hi, rfl⟩ := List.mem_map.mp hx
          rw [List.mem_range] at hi
          exact ⟨i, by rw [Int.zero_add], by omega⟩
        · rw [List.nil_append]
          have e2 : (rangeD 0 (ps.length - 1)).map (atD ps) = (List.range (ps.length - 1)).map fun i => D.bl (decide ((ps.getD i (0, 0)).2 + 2 ≤ (ps.getD (i + 1) (0, 0)).1)) := by
            unfold rangeD
            rw [List.map_map]
            refine List.map_congr_left fun i _ => ?_
            show atD ps (.int (0 + (i : Int))) = _
            rw [Int.zero_add]
            rfl
          rw [e2]
          have e3 := boolsOf_map (fun i : Nat => decide ((ps.getD i (0, 0)).2 + 2 ≤ (ps.getD (i + 1) (0, 0)).1)) (List.range (ps.length - 1))
          simp only [gAll, e3]
          refine hret _ _ ?_
          show _ = ((ps.map pairD).all isPairD && apart (ps.map pairD))
          rw [apart_at]
          have : (ps.map pairD).all isPairD = true := by
            rw [List.all_map] at hall ⊢
            exact hall
          rw [this, Bool.true_and]
  | _ =>
    simp only [isTupD]
    walk_at "dl"
    exact hret _ false rfl
theorem any_ap {n : Int} {o : O} {ds : List D} {Q : Dl.Slot → List Dl.Slot → Prop} (hp : Pot n o) (hn : n < 8000000) (h0 : ds ≠ []) (hl : ds.length < 1000000) (h : ∀ r o', r ∈ ds → Pot (n + 1) o' → Q (.fro r) [.own true o', .fro (.lst ds)]) : C__law_any [.own true o, .fro (.lst ds)] Q :=
  ⟨n, o, _, ds, rfl, .inl rfl, hp, hn, h0, hl, h⟩
theorem body_odd {KD : DEnds} {n : Int} {o : O} {s1 s3 : Dl.Slot} {d : D} {w dp : Nat} (hp : Pot n o) (hn : n < 7500000) (hd : Fine w dp d) (hc : clnD d = true) (hw : 20 ≤ w) (hk : ∀ d o', Fine (2 * w + 2) (dp + 1) d → clnD d = true → Pot (n + 1) o' → KD.nx [.own true o', s1, .fro d, s3]) :
    wb__law_odd_1 KD [.own true o, s1, .fro d, s3] := by
  unfold wb__law_odd_1 wDct1
  walk_at "dl"
  refine ⟨⟨_, _, rfl⟩, by decide, by decide, by decide, by decide, by decide, any_ap hp (by omega) (by simp) (by show 5 < 1000000; decide) fun r o1 hr hp1 => ?_⟩
  walk_at "dl"
  have hcl : clnD r = true := by
    simp only [List.mem_cons, List.not_mem_nil, or_false] at hr
    rcases hr with rfl | rfl | rfl | rfl | rfl
    · show (clnD d && true) = true
      rw [hc]; rfl
    · show (clnD d && true) = true
      rw [hc]; rfl
    · show ((("a" : Str).cps.all fun c => decide (c < 0x110000)) && (clnD d && true)) = true
      rw [hc]; decide +kernel
    · show (clnD d && (clnD d && true)) = true
      rw [hc]; rfl
    · show (true && (clnD d && true)) = true
      rw [hc]; rfl
  refine hk r o1 ?_ hcl hp1
  simp only [List.mem_cons, List.not_mem_nil, or_false] at hr
  rcases hr with rfl | rfl | rfl | rfl | rfl
  · exact (fine_tup (n := 1) (by simpa using hd) (Nat.le_refl _)).mono (by omega) (Nat.le_refl _)
  · exact (fine_lst (n := 1) (by simpa using hd) (Nat.le_refl _)).mono (by omega) (Nat.le_refl _)
  · refine ⟨?_, ?_, ?_⟩
    · show (keyFine (.inr "a") && (showD d && true)) = true
      rw [hd.1]; rfl
    · show 1 + (2 + ndD d + 0) ≤ _
      have := hd.2.1
      omega
    · show max (max 0 (pyD d).depth) 0 + 1 ≤ _
      have := hd.2.2
      omega
  · exact (fine_tup (n := 2) (by simpa using hd) (Nat.le_refl _)).mono (by omega) (Nat.le_refl _)
  · exact (fine_tup (w := w) (dp := dp) (n := 2) (fun e he => by
      simp only [List.mem_cons, List.not_mem_nil, or_false] at he
      rcases he with rfl | rfl
      · exact (fine_int (by decide)).mono (by omega) (Nat.zero_le _)
      · exact hd) (Nat.le_refl _)).mono (by omega) (Nat.le_refl _)
def growW : Nat → Nat → Nat
  | w, 0 => w
  | w, k + 1 => growW (2 * w + 2) k
theorem loop_odd {KD : DEnds} {s1 : Dl.Slot} : ∀ (m : Nat) (i n : Int) (o : O) (s3 : Dl.Slot) (d : D) (w dp : Nat), Pot n o → n + m < 7500000 → Fine w dp d → clnD d = true → 20 ≤ w → isFree s3 →
    (∀ d o' s3, Fine (growW w m) (dp + m) d → clnD d = true → Pot (n + m) o' → KD.nx [.own true o', s1, .fro d, s3]) → loop (gNm 3) wb__law_odd_1 KD (rangeD i m) [.own true o, s1, .fro d, s3]
  | 0, i, n, o, s3, d, w, dp, hp, hn, hd, hc, hw, f3, hk => hk d o s3 hd hc (hp.mono (by omega))
  | m + 1, i, n, o, s3, d, w, dp, hp, hn, hd, hc, hw, f3, hk => by
    rw [rangeD_succ, loop_cons]
    refine ⟨notLent_free (s := s3) rfl f3, ?_⟩
    refine body_odd hp (by omega) hd hc hw fun d' o' hd' hc' hp' => ?_
    refine loop_odd m (i + 1) (n + 1) o' _ d' (2 * w + 2) (dp + 1) hp' (by omega) hd' hc' (by omega) trivial fun d2 o2 t3 hd2 hc2 hp2 => hk d2 o2 t3 (hd2.mono (Nat.le_refl _) (by omega)) hc2 (hp2.mono (by omega))
theorem int_mem {cs : List Int} {r : D} (h : r ∈ cs.map .int) : ∃ i ∈ cs, r = .int i := by
  obtain ⟨i, hi, rfl⟩ := List.mem_map.mp h
  exact ⟨i, hi, rfl⟩
theorem ok__law_odd (args : List Dl.Slot) (Q : Dl.Slot → List Dl.Slot → Prop) (hl : args.length = 1) (h : C__law_odd args Q) : noOwn args ∧ w__law_odd (endsOf args Q) (args ++ List.replicate (4 - 1) .nil) := by
  obtain ⟨n, o, rfl, hp, hn, hq⟩ := h
  refine ⟨noOwnT1, ?_⟩
  generalize hK : endsOf [.own true o] Q = KD
  have hret : ∀ (d : D) (o' : O) (ρ : List Dl.Slot), Fine 12000 40 d → clnD d = true → Pot (n + 12) o' → KD.rt (.fro d) (.own true o' :: ρ) := fun d o' ρ h1 hc h2 => by subst hK; exact hq d o' h1 hc h2
  clear hK hq
  unfold w__law_odd
  walk_at "dl"
  refine ⟨by decide +kernel, ?_⟩
  generalize hA : CE.ds _ = A
  have fA : A.all (fineB 20 3) = true := by subst hA; decide +kernel
  have cA : A.all clnD = true := by subst hA; decide +kernel
  have lA : A.length = 16 := by subst hA; rfl
  clear hA
  unfold wr__law_odd_5
  walk_at "dl"
  refine ⟨by decide +kernel, ?_⟩
  generalize hB : CE.ds _ = B
  have fB : B.all (fineB 20 3) = true := by subst hB; decide +kernel
  have cB : B.all clnD = true := by subst hB; decide +kernel
  have lB : B.length = 9 := by subst hB; rfl
  clear hB
  refine ⟨big _ (by omega), ?_⟩
  unfold wr__law_odd_4
  walk_at "dl"
  have fAB : (A ++ B).all (fineB 20 3) = true := by rw [List.all_append, fA, fB]; rfl
  have cAB : (A ++ B).all clnD = true := by rw [List.all_append, cA, cB]; rfl
  refine ⟨⟨_, _, rfl⟩, any_ap hp (by omega) (by intro z; have := congrArg List.length z; simp [lA] at this) (by simp [lA, lB]) fun r o1 hr hp1 => ?_⟩
  walk_at "dl"
  unfold wr__law_odd_3
  walk_at "dl"
  refine ⟨⟨_, _, rfl⟩, by decide +kernel, any_ap hp1 (by omega) nofun (by decide) fun m o2 hm hp2 => ?_⟩
  obtain ⟨i, hi, rfl⟩ := int_mem (cs := [0, 0, 0, 1, 2, 9]) hm
  have hi9 : 0 ≤ i ∧ i ≤ 9 := by
    simp only [List.mem_cons, List.not_mem_nil, or_false] at hi
    omega
  walk_at "dl"
  refine ⟨by omega, by omega, ?_⟩
  have hm9 : i.toNat ≤ 9 := by omega
  refine loop_odd i.toNat 0 (n + 2) o2 .nil r 20 3 (hp2.mono (by omega)) (by omega) (fine_mem fAB r hr) (List.all_eq_true.mp cAB r hr) (Nat.le_refl _) trivial fun d o' s3 hd hc hp' => ?_
  dsimp only
  unfold wr__law_odd_2
  walk_at "dl"
  refine hret d o' _ (hd.mono ?_ (by omega)) hc (hp'.mono (by omega))
  generalize i.toNat = k at hm9
  match k, hm9 with
  | 0, _ => decide
  | 1, _ => decide
  | 2, _ => decide
  | 3, _ => decide
  | 4, _ => decide
  | 5, _ => decide
  | 6, _ => decide
  | 7, _ => decide
  | 8, _ => decide
  | 9, _ => decide
end Tk
end Lw
namespace Lw
open PySem L2 Dl Rs
local macro_rules | `(tactic| walk_at "dl") => `(tactic| try simp (config := { maxSteps := 400000 }) only [gNotInX, gIxK, gNotInK, gInK, wFld, wUnM, back1, Dl.isObj, gIsN, gAny, gAll, gNotN, wSeqX, wIfX, wLift, wLiftE, wRetX, wDropX, wCallX, wRaise, wTupX, wCallA, wCallXK, wCallXPK, wLam, capt, viewL, lamOf, wAct, wTry, wExcF, wIsExc, wIsExcN, wSetX, endsNil, wMake, gInt1, wJoin, gStr, gMul, lcBody, wipeD, back, Option.getD_some, wSeq, wIfS, wAnd, wOr, wNot, wRet, wDrop, wNext, wBrk, wCnt, wAndV, wOrV, wNotV, wB, wIf, wCB, wArgs, wVar, wC, wTup, wLst, wOp, wChain, wNeg, wSl, wP, wNoP, wSet, wPar, wAsg, wCall, wCallP, wCallN, wApp, wExt, wMt, gApp, gExt, wSetIx, wSeqI, wRng1, wRng2, wZip, wEnum, wFor, withL, lookL, lookD, with2, frz, frzL, prep, put, notLent, kindO, gTp, gNms, gNm, O.d, itemsOf, leave, endsOf, outsOf, clean, wYes, wK, CE.s, wDct0, wDct1, wRev, wRev2, wPop, wSortSet, wSortSet2, gEqNil, gNotB, wParN, wTupAsg, prepL, putL, wEnum2, wCallK, perm, gIsB, gRepr, List.getD_cons_zero, List.getD_cons_succ, wFg, wFgL, fgs, fg1, wFz, fzs, fz1, gTpG, gAllT, wTupS, wLstS, wArgsS, wLenSet, gIn_tup, gIn_lst, gNotIn_tup, gNotIn_lst, gEq_int, gNe_int, gEq_str, gNe_str,
    gI, gIC, Dl.gSub, gFdiv, gMod, gPow, gLt, gLe, gGt, gGe, gAdd, gMul, gIsN, gNotN, Dl.isNon, gIx, gSl, gLen, gAbs, gInt1, gMax2, gMin2, gTuple, gList, gIsi, atI_0, atI_1, atI_2, atI_m1, ixN_30, ixN_32,
    List.getElem?_cons_zero, List.getElem?_cons_succ, List.set_cons_zero, List.set_cons_succ, List.cons_append, List.nil_append, List.append_nil, List.replicate, List.length_cons, List.length_nil, List.map_cons, List.map_nil, Nat.reduceAdd, Nat.reduceSub, Nat.add_one_sub_one,
    true_and, and_true, if_true, if_false, Bool.false_eq_true, Bool.not_true, Bool.not_false, reduceIte, ite_true, ite_false, decide_true, decide_false])
namespace Tk
theorem ok__law_con_text (args : List Dl.Slot) (Q : Dl.Slot → List Dl.Slot → Prop) (hl : args.length = 1) (h : C__law_con_text args Q) : noOwn args ∧ w__law_con_text (endsOf args Q) (args ++ List.replicate (4 - 1) .nil) := by
  obtain ⟨c, R, m, rfl, hc, hR, hq⟩ := h
  have h4 := hR.len
  refine ⟨noOwn1 _, ?_⟩
  unfold w__law_con_text wLc
  generalize hK : endsOf [.fro (.tup [.str "con", .str c, rsD R, .bl m])] Q = KD
  have hret : ∀ (ρ : List Dl.Slot), KD.rt (.fro (.str (condT c R m))) ρ := fun ρ => by subst hK; exact rtF [_] hq
  clear hK hq
  unfold rsD
  walk_at "dl"
  refine lc_map (wi := wSeqI (wOp gIx (wVar 0) (wC (.int 2)))) pairTD (R.map pairD) (by rw [List.length_map]; omega) (fun d hd k1 k0 hk => ?_) ?_
  · obtain ⟨p, hp, rfl⟩ := List.mem_map.mp hd
    have hb := hR.bnd hp
    have h1 : p.1.natAbs ≤ 10000 := by omega
    have h2 : p.2.natAbs ≤ 10000 := by omega
    have a := numT_len h1
    have b := numT_len h2
    have e : (".." : Str).length = 2 := by decide +kernel
    unfold pairD at hk ⊢
    unfold pairTD pairT at hk
    dsimp only at hk
    walk_at "dl"
    by_cases hp : p.1 = p.2
    · rw [if_pos hp] at hk
      rw [decide_eq_true hp]
      walk_at "dl"
      exact ⟨log_of h1, hk⟩
    · rw [if_neg hp] at hk
      rw [decide_eq_false hp]
      walk_at "dl"
      refine ⟨log_of h1, ?_, ?_⟩
      · show (numT p.1).length + _ ≤ _
        rw [e]; exact big _ (by omega)
      · refine ⟨log_of h2, ?_, hk⟩
        show (numT p.1 ++ ".." : Str).length + (numT p.2).length ≤ _
        rw [len_append, e]; exact big _ (by omega)
  · have e : (R.map pairD).map pairTD = (R.map pairT).map D.str := by
      rw [List.map_map, List.map_map]; rfl
    rw [e]
    obtain ⟨w1, w2⟩ := words_sum (m := m) hR
    have e1 : ("=" : Str).length = 1 := by decide +kernel
    have e3 : ("-" : Str).length = 1 := by decide +kernel
    have e4 : ("," : Str).length = 1 := by decide +kernel
    have cl : (c ++ "=" : Str).length ≤ 9 := by rw [len_append, e1]; omega
    have tail : wr__law_con_text_1 KD [.fro (.tup [.str "con", .str c, .tup (R.map pairD), .bl m]), .fro (.lst ((wordsT R m).map D.str)), .nil, .nil] := by
      unfold wr__law_con_text_1
      walk_at "dl"
      refine ⟨by rw [e1]; exact big _ (by omega), by decide, ?_⟩
      rw [gNe_strs_nil okS_words]
      have fin := hret [.fro (.tup [.str "con", .str c, .tup (R.map pairD), .bl m]), .fro (.lst ((wordsT R m).map D.str)), .nil, .nil]
      unfold condT at fin
      by_cases hw : wordsT R m = []
      · rw [decide_eq_true hw]
        rw [if_pos hw] at fin
        walk_at "dl"
        exact ⟨by rw [e3]; exact big _ (by omega), fin⟩
      · rw [decide_eq_false hw]
        rw [if_neg hw] at fin
        walk_at "dl"
        refine ⟨wordsT R m, rfl, by rw [e4]; omega, ?_, fin⟩
        have := join_len "," (wordsT R m)
        rw [e4] at this
        exact big _ (by omega)
    walk_at "dl"
    unfold wr__law_con_text_2
    cases m with
    | true =>
      walk_at "dl"
      refine ⟨by decide, ?_⟩
      rw [show atI [D.str "con", D.str c, D.tup (R.map pairD), D.bl true] 3 = some (.bl true) from rfl]
      walk_at "dl"
      have e6 : (R.map pairT).map D.str ++ (List.replicate (Int.toNat 1) [D.str "?"]).flatten = (wordsT R true).map D.str := by
        unfold wordsT
        rw [List.map_append]; rfl
      refine ⟨⟨by decide, by decide, by decide⟩, ?_, ?_⟩
      · rw [List.length_map, List.length_map]; exact big _ (by show R.length + 1 ≤ _; omega)
      · rw [e6]; exact tail
    | false =>
      walk_at "dl"
      refine ⟨by decide, ?_⟩
      rw [show atI [D.str "con", D.str c, D.tup (R.map pairD), D.bl false] 3 = some (.bl false) from rfl]
      walk_at "dl"
      have e6 : (R.map pairT).map D.str ++ (List.replicate (Int.toNat 0) [D.str "?"]).flatten = (wordsT R false).map D.str := by
        unfold wordsT
        rw [List.map_append]; rfl
      refine ⟨⟨by decide, by decide, by decide⟩, ?_, ?_⟩
      · rw [List.length_map, List.length_map]; exact big _ (by show R.length + 0 ≤ _; omega)
      · rw [e6]; exact tail
def wdM (c : Str) : Str := if c = "BadColumn" then "column" else if c = "BadRanges" then "ranges" else "flag"
def C__law_met : LamD → (Dl.Slot → Prop) → Prop := fun L Q => ∃ (due : Option (Str × Str × D)) (o : O), (∀ c f v, due = some (c, f, v) → (c, f) ∈ errs ∧ reprOk v ∧ Q (.fro (.tup [.str (wdM c), .str (pyD v).shown]))) ∧ (due = none → Q (.fro (.tup [.str "told", o.d]))) ∧
  ∀ Qn Qx, (match due with
    | some (c, f, v) => Qx c f v
    | none => Qn (.own false o)) → L Qn Qx
def wr__law_met_1 (d : D) (L : LamD) : WS := (wRet (wTup [(wC (.str "other")), (wIsExc errs "ValueError" (wVar 1))]))
def wr__law_met_2 (d : D) (L : LamD) : WS := (wSeq (wIfS (wB (wIsExc errs "BadFlag" (wVar 1))) (wRet (wTup [(wC (.str "flag")), (wCB gRepr [(wExcF errs "value" (wVar 1))])])) wNext)
  (wr__law_met_1 d L))
def wr__law_met_3 (d : D) (L : LamD) : WS := (wSeq (wIfS (wB (wIsExc errs "BadRanges" (wVar 1))) (wRet (wTup [(wC (.str "ranges")), (wCB gRepr [(wExcF errs "value" (wVar 1))])])) wNext)
  (wr__law_met_2 d L))
def wr__law_met_4 (d : D) (L : LamD) : WS := (wSeq (wIfS (wB (wIsExc errs "BadColumn" (wVar 1))) (wRet (wTup [(wC (.str "column")), (wCB gRepr [(wExcF errs "value" (wVar 1))])])) wNext)
  (wr__law_met_3 d L))
def wr__law_met_5 (d : D) (L : LamD) : WS := (wSeq (wFg [2] (wIfS (wB (wOp gIsN (wVar 1) (wC .non))) (wRet (wTup [(wC (.str "told")), (wVar 2)])) wNext))
  (wr__law_met_4 d L))
def wr__law_met_6 (d : D) (L : LamD) : WS := (wSeq (wTry errs (wSetX 2 (wAct 0 d L)) [("FactsError", some 3, (wFg [3] (wSet 1 (wVar 3))))])
  (wr__law_met_5 d L))
def w__law_met (d : D) (L : LamD) : WS := (wSeq (wAsg (wTup [(wC .non), (wC .non)]) (gTp [1, 2]))
  (wr__law_met_6 d L))
theorem ok__law_met (d : D) (L : LamD) (Q : Dl.Slot → Prop) (h : C__law_met L Q) : w__law_met d L (endsOf [.fro d] fun s _ => Q s) ([.fro d] ++ List.replicate (4 - 1) .nil) := by
  obtain ⟨due, o, hx, hn, hL⟩ := h
  unfold w__law_met
  generalize hK : endsOf [.fro d] (fun s (_ : List Dl.Slot) => Q s) = KD
  have hret : ∀ (v : D) ρ, Q (.fro v) → KD.rt (.fro v) ρ := fun v ρ h => by subst hK; exact h
  clear hK
  walk_at "dl"
  refine ⟨by decide, ?_⟩
  unfold wr__law_met_6
  walk_at "dl"
  refine hL _ _ ?_
  cases due with
  | none =>
    walk_at "dl"
    unfold wr__law_met_5
    walk_at "dl"
    exact ⟨by decide, hret _ _ (hn rfl)⟩
  | some x =>
    obtain ⟨c, f, v⟩ := x
    obtain ⟨hm, hr, hq⟩ := hx c f v rfl
    refine ⟨hm, ?_⟩
    have hm2 := hm
    simp only [errs, List.mem_cons, Prod.mk.injEq, List.not_mem_nil, or_false] at hm2
    have hF : isSubC c "FactsError" = true := by rcases hm2 with ⟨rfl, rfl⟩ | ⟨rfl, rfl⟩ | ⟨rfl, rfl⟩ <;> decide +kernel
    rw [hdl, if_pos hF]
    walk_at "dl"
    refine ⟨fun b o e => (nomatch e), ?_⟩
    unfold wr__law_met_5
    walk_at "dl"
    unfold wr__law_met_4
    walk_at "dl"
    refine ⟨hm, ?_⟩
    rcases hm2 with ⟨rfl, rfl⟩ | ⟨rfl, rfl⟩ | ⟨rfl, rfl⟩
    · rw [show isSubC "BadColumn" "BadColumn" = true by decide +kernel]
      walk_at "dl"
      refine ⟨hm, hr, by decide, hret _ _ (by rw [show wdM "BadColumn" = "column" by decide +kernel] at hq; exact hq)⟩
    · rw [show isSubC "BadRanges" "BadColumn" = false by decide +kernel]
      walk_at "dl"
      unfold wr__law_met_3
      walk_at "dl"
      rw [show isSubC "BadRanges" "BadRanges" = true by decide +kernel]
      walk_at "dl"
      refine ⟨hm, hm, hr, by decide, hret _ _ (by rw [show wdM "BadRanges" = "ranges" by decide +kernel] at hq; exact hq)⟩
    · rw [show isSubC "BadFlag" "BadColumn" = false by decide +kernel]
      walk_at "dl"
      unfold wr__law_met_3
      walk_at "dl"
      rw [show isSubC "BadFlag" "BadRanges" = false by decide +kernel]
      walk_at "dl"
      unfold wr__law_met_2
      walk_at "dl"
      rw [show isSubC "BadFlag" "BadFlag" = true by decide +kernel]
      walk_at "dl"
      refine ⟨hm, hm, hm, hr, by decide, hret _ _ (by rw [show wdM "BadFlag" = "flag" by decide +kernel] at hq; exact hq)⟩
end Tk
end Lw
namespace Lw
open PySem L2 Dl Rs
local macro_rules | `(tactic| walk_at "dl") => `(tactic| try simp (config := { maxSteps := 400000 }) only [gNotInX, gIxK, gNotInK, gInK, wFld, wUnM, back1, Dl.isObj, gIsN, gAny, gAll, gNotN, wSeqX, wIfX, wLift, wLiftE, wRetX, wDropX, wCallX, wRaise, wTupX, wCallA, wCallXK, wCallXPK, wLam, capt, viewL, lamOf, wAct, wTry, wExcF, wIsExc, wIsExcN, wSetX, endsNil, wMake, gInt1, wJoin, gStr, gMul, lcBody, wipeD, back, Option.getD_some, wSeq, wIfS, wAnd, wOr, wNot, wRet, wDrop, wNext, wBrk, wCnt, wAndV, wOrV, wNotV, wB, wIf, wCB, wArgs, wVar, wC, wTup, wLst, wOp, wChain, wNeg, wSl, wP, wNoP, wSet, wPar, wAsg, wCall, wCallP, wCallN, wApp, wExt, wMt, gApp, gExt, wSetIx, wSeqI, wRng1, wRng2, wZip, wEnum, wFor, withL, lookL, lookD, with2, frz, frzL, prep, put, notLent, kindO, gTp, gNms, gNm, O.d, itemsOf, leave, endsOf, outsOf, clean, wYes, wK, CE.s, wDct0, wDct1, wRev, wRev2, wPop, wSortSet, wSortSet2, gEqNil, gNotB, wParN, wTupAsg, prepL, putL, wEnum2, wCallK, perm, gIsB, gRepr, List.getD_cons_zero, List.getD_cons_succ, wFg, wFgL, fgs, fg1, wFz, fzs, fz1, gTpG, gAllT, wTupS, wLstS, wArgsS, wLenSet, gIn_tup, gIn_lst, gNotIn_tup, gNotIn_lst, gEq_int, gNe_int, gEq_str, gNe_str,
    gI, gIC, Dl.gSub, gFdiv, gMod, gPow, gLt, gLe, gGt, gGe, gAdd, gMul, gIsN, gNotN, Dl.isNon, gIx, gSl, gLen, gAbs, gInt1, gMax2, gMin2, gTuple, gList, gIsi, atI_0, atI_1, atI_2, atI_m1, ixN_30, ixN_32,
    List.getElem?_cons_zero, List.getElem?_cons_succ, List.set_cons_zero, List.set_cons_succ, List.cons_append, List.nil_append, List.append_nil, List.replicate, List.length_cons, List.length_nil, List.map_cons, List.map_nil, Nat.reduceAdd, Nat.reduceSub, Nat.add_one_sub_one,
    true_and, and_true, if_true, if_false, Bool.false_eq_true, Bool.not_true, Bool.not_false, reduceIte, ite_true, ite_false, decide_true, decide_false])
namespace Tk
structure FineC (d : D) : Prop where
  fine : Fine 12000 40 d
  cln : clnD d = true
theorem cln_rs : ∀ rs : RS, clnL (rs.map pairD) = true
  | [] => rfl
  | p :: r => by
    show (clnD (pairD p) && clnL (r.map pairD)) = true
    rw [cln_rs r]; rfl
def C__law_three : WE := fun args Q => ∃ (n : Int) (o : O), args = [.own true o] ∧ Pot n o ∧ n + 100 < 7000000 ∧ ∀ a s m o', FineC a → FineC s → FineC m → Pot (n + 100) o' → Q (.own false (.lst [a, s, m])) [.own true o']
def wr__law_three_1 : WS := (wRet (wVar 6))
def wr__law_three_2 : WS := (wSeq (wIfS (wB (wOp gEq (wCallP C__law_draw 0 [(wC (.int 3))]) (wC (.int 0)))) (wSetIx 6 (wCallP C__law_draw 0 [(wC (.int 3))]) (wCallP C__law_odd 0 [])) wNext)
  wr__law_three_1)
def wr__law_three_3 : WS := (wSeq (wFg [1, 4, 5] (wSet 6 (wLst [(wVar 1), (wVar 4), (wVar 5)])))
  wr__law_three_2)
def wr__law_three_4 : WS := (wSeq (wFg [2, 3] (wFz [4, 5] (wPar 4 5 (wCallP C__law_spans 0 [(wCallP C__law_any 0 [(wK (.lst [(.int 3), (.int 4), (.int 6)]))]), (wVar 2), (wVar 3)]) (wCallP C__law_any 0 [(wK (.lst [(.bl true), (.bl false), (.bl false), (.int 0), (.int 1), .non]))]))))
  wr__law_three_3)
def wr__law_three_5 : WS := (wSeq (wAsg (wCallP C__law_any 0 [(wK (.lst [(.tup [(.int 0), (.int 30)]), (.tup [(.neg 9999), (.int 9999)]), (.tup [(.neg 10004), (.int 9)]), (.tup [(.int 9950), (.int 10003)]), (.tup [(.neg 9999), (.neg 9950)])]))]) (gTp [2, 3]))
  wr__law_three_4)
def w__law_three : WS := (wSeq (wFz [1] (wSet 1 (wCallP C__law_any 0 [(wK (.lst [(.str "a"), (.str "age"), (.str "abcdefgh"), (.str "zz"), (.str "and"), (.str "or"), (.str "andor"), (.str "abcdefghi"), (.str ""), (.str "a1"), (.str "A"), (.str "a b")]))])))
  wr__law_three_5)
theorem three_span {r : D} (h : r ∈ CE.ds [CE.tup [CE.int 0, CE.int 30], CE.tup [CE.neg 9999, CE.int 9999], CE.tup [CE.neg 10004, CE.int 9], CE.tup [CE.int 9950, CE.int 10003], CE.tup [CE.neg 9999, CE.neg 9950]]) : ∃ lo hi : Int, r = .tup [.int lo, .int hi] ∧ lo ≤ hi ∧ -10004 ≤ lo ∧ hi ≤ 10003 := by
  simp only [CE.ds, CE.d, List.mem_cons, List.not_mem_nil, or_false] at h
  rcases h with rfl | rfl | rfl | rfl | rfl
  · exact ⟨0, 30, rfl, by decide, by decide, by decide⟩
  · exact ⟨-9999, 9999, rfl, by decide, by decide, by decide⟩
  · exact ⟨-10004, 9, rfl, by decide, by decide, by decide⟩
  · exact ⟨9950, 10003, rfl, by decide, by decide, by decide⟩
  · exact ⟨-9999, -9950, rfl, by decide, by decide, by decide⟩
theorem three_most {r : D} (h : r ∈ CE.ds [CE.int 3, CE.int 4, CE.int 6]) : ∃ k : Nat, r = .int k ∧ k ≤ 6 := by
  simp only [CE.ds, CE.d, List.mem_cons, List.not_mem_nil, or_false] at h
  rcases h with rfl | rfl | rfl
  · exact ⟨3, rfl, by decide⟩
  · exact ⟨4, rfl, by decide⟩
  · exact ⟨6, rfl, by decide⟩
theorem fine_rs {rs : RS} {lo hi : Int} (c : Canon rs) (w : Within lo hi rs) (h1 : -10004 ≤ lo) (h2 : hi ≤ 10003) (hl : rs.length ≤ 6) : FineC (rsD rs) := by
  refine ⟨?_, cln_rs rs⟩
  refine (fine_tup (w := 3) (dp := 1) (n := 6) (fun e he => ?_) (by rw [List.length_map]; exact hl)).mono (by decide) (by decide)
  obtain ⟨p, hp, rfl⟩ := List.mem_map.mp he
  have a := w p hp
  have b := c.ok p hp
  have s : ∀ i : Int, i.natAbs ≤ 10004 → Fine 1 0 (.int i) := fun i hi => ⟨by show decide (i.natAbs < 2 ^ 250) = true; rw [decide_eq_true_eq]; exact Nat.lt_of_le_of_lt hi (by decide), by show 1 ≤ 1; decide, by show 0 ≤ 0; decide⟩
  exact fine_tup (w := 1) (dp := 0) (n := 2) (fun e he => by
    simp only [List.mem_cons, List.not_mem_nil, or_false] at he
    rcases he with rfl | rfl
    · exact s _ (by omega)
    · exact s _ (by omega)) (by simp)
theorem three_name {a : D} (ha : a ∈ CE.ds [(.str "a"), (.str "age"), (.str "abcdefgh"), (.str "zz"), (.str "and"), (.str "or"), (.str "andor"), (.str "abcdefghi"), (.str ""), (.str "a1"), (.str "A"), (.str "a b")]) : FineC a :=
  ⟨((fine_mem (w := 20) (dp := 1) (ds := CE.ds [(.str "a"), (.str "age"), (.str "abcdefgh"), (.str "zz"), (.str "and"), (.str "or"), (.str "andor"), (.str "abcdefghi"), (.str ""), (.str "a1"), (.str "A"), (.str "a b")]) (by decide +kernel)) a ha).mono (by decide) (by decide), List.all_eq_true.mp (show (CE.ds [(.str "a"), (.str "age"), (.str "abcdefgh"), (.str "zz"), (.str "and"), (.str "or"), (.str "andor"), (.str "abcdefghi"), (.str ""), (.str "a1"), (.str "A"), (.str "a b")]).all clnD = true by decide +kernel) a ha⟩
theorem draw_ap5 {n m : Int} {o : O} {Q : Dl.Slot → List Dl.Slot → Prop} (hp : Pot n o) (hn : n < 8000000) (h0 : 0 < m) (h1 : m < 2 ^ 200) (h : ∀ r o', 0 ≤ r → r < m → Pot (n + 1) o' → Q (.fro (.int r)) [.own true o', .fro (.int m)]) : C__law_draw [.own true o, .fro (.int m)] Q := ⟨n, o, m, rfl, hp, hn, h0, h1, h⟩
theorem three_flag {r : D} (h : r ∈ CE.ds [CE.bl true, CE.bl false, CE.bl false, CE.int 0, CE.int 1, CE.non]) : FineC r :=
  ⟨((fine_mem (w := 20) (dp := 1) (ds := CE.ds [CE.bl true, CE.bl false, CE.bl false, CE.int 0, CE.int 1, CE.non]) (by decide +kernel)) r h).mono (by decide) (by decide), List.all_eq_true.mp (show (CE.ds [CE.bl true, CE.bl false, CE.bl false, CE.int 0, CE.int 1, CE.non]).all clnD = true by decide +kernel) r h⟩
theorem three3 {KD : DEnds} {n : Int} {o : O} {a s m : D} (hp : Pot n o) (hn : n + 50 < 7000000) (fa : FineC a) (fs : FineC s) (fm : FineC m)
    (hret : ∀ a s m o' ρ, FineC a → FineC s → FineC m → Pot (n + 50) o' → ρ[5]? = some (.own false (.lst [a, s, m])) → KD.rt (.var 6) (.own true o' :: ρ)) :
    wr__law_three_3 KD [.own true o, .fro a, .nil, .nil, .fro s, .fro m, .nil] := by
  unfold wr__law_three_3
  walk_at "dl"
  refine ⟨by decide, ?_⟩
  unfold wr__law_three_2
  walk_at "dl"
  refine ⟨⟨_, _, rfl⟩, draw_ap5 hp (by omega) (by decide) (by decide) fun r o1 r0 r1 hp1 => ?_⟩
  walk_at "dl"
  by_cases hr : r = 0
  · rw [if_pos (decide_eq_true hr)]
    refine ⟨⟨_, _, rfl⟩, _, o1, rfl, hp1, by omega, fun d o2 hd hc hp2 => ?_⟩
    have hd : FineC d := ⟨hd, hc⟩
    walk_at "dl"
    refine ⟨⟨_, _, rfl⟩, ⟨_, _, rfl⟩, draw_ap5 hp2 (by omega) (by decide) (by decide) fun k o3 k0 k1 hp3 => ?_⟩
    unfold wr__law_three_1
    walk_at "dl"
    obtain rfl | rfl | rfl : k = 0 ∨ k = 1 ∨ k = 2 := by omega
    · exact hret d s m o3 _ hd fs fm (hp3.mono (by omega)) rfl
    · exact hret a d m o3 _ fa hd fm (hp3.mono (by omega)) rfl
    · exact hret a s d o3 _ fa fs hd (hp3.mono (by omega)) rfl
  · rw [if_neg (by rw [decide_eq_true_eq]; exact hr)]
    unfold wr__law_three_1
    walk_at "dl"
    exact hret a s m o1 _ fa fs fm (hp1.mono (by omega)) rfl
theorem three4 {KD : DEnds} {n : Int} {o : O} {a : D} {lo hi : Int} (hp : Pot n o) (hn : n + 80 < 7000000) (l1 : lo ≤ hi) (l2 : -10004 ≤ lo) (l3 : hi ≤ 10003) (fa : FineC a)
    (hret : ∀ a s m o' ρ, FineC a → FineC s → FineC m → Pot (n + 70) o' → ρ[5]? = some (.own false (.lst [a, s, m])) → KD.rt (.var 6) (.own true o' :: ρ)) :
    wr__law_three_4 KD [.own true o, .fro a, .fro (.int lo), .fro (.int hi), .nil, .nil, .nil] := by
  unfold wr__law_three_4 wK
  walk_at "dl"
  refine ⟨⟨_, _, rfl⟩, ⟨_, _, rfl⟩, by decide +kernel, any_ap hp (by omega) (by decide) (by decide) fun r o3 hr hp3 => ?_⟩
  obtain ⟨k, rfl, hk⟩ := three_most hr
  clear hr
  walk_at "dl"
  refine ⟨_, _, k, lo, hi, rfl, hp3, by omega, by omega, l1, by omega, by omega, fun rs o4 cr lr wr hp4 => ?_⟩
  walk_at "dl"
  refine ⟨⟨_, _, rfl⟩, by decide +kernel, any_ap hp4 (by omega) (by decide) (by decide) fun m o5 hm hp5 => ?_⟩
  walk_at "dl"
  refine three3 hp5 (by omega) fa (fine_rs cr wr l2 l3 (by omega)) (three_flag hm) fun a s m o' ρ h1 h2 h3 h4 h5 => hret a s m o' ρ h1 h2 h3 (h4.mono (by omega)) h5
theorem ok__law_three (args : List Dl.Slot) (Q : Dl.Slot → List Dl.Slot → Prop) (hl : args.length = 1) (h : C__law_three args Q) : noOwn args ∧ w__law_three (endsOf args Q) (args ++ List.replicate (7 - 1) .nil) := by
  obtain ⟨n, o, rfl, hp, hn, hq⟩ := h
  refine ⟨noOwnT1, ?_⟩
  generalize hK : endsOf [.own true o] Q = KD
  have hret : ∀ a s m o' ρ, FineC a → FineC s → FineC m → Pot (n + 100) o' → ρ[5]? = some (.own false (.lst [a, s, m])) → KD.rt (.var 6) (.own true o' :: ρ) := fun a s m o' ρ h1 h2 h3 h4 e => by subst hK; exact rtLV [] e (hq a s m o' h1 h2 h3 h4)
  clear hK hq
  unfold w__law_three wK
  walk_at "dl"
  refine ⟨⟨_, _, rfl⟩, by decide +kernel, any_ap hp (by omega) (by decide) (by decide) fun a o1 ha hp1 => ?_⟩
  walk_at "dl"
  unfold wr__law_three_5 wK
  walk_at "dl"
  refine ⟨⟨_, _, rfl⟩, by decide +kernel, any_ap hp1 (by omega) (by decide) (by decide) fun r o2 hr hp2 => ?_⟩
  obtain ⟨lo, hi, rfl, l1, l2, l3⟩ := three_span hr
  have fa := three_name ha
  clear ha hr
  walk_at "dl"
  exact three4 hp2 (by omega) l1 l2 l3 fa fun a s m o' ρ h1 h2 h3 h4 h5 => hret a s m o' ρ h1 h2 h3 (h4.mono (by omega)) h5
end Tk
end Lw
namespace Lw
open PySem L2 Dl Rs
local macro_rules | `(tactic| walk_at "dl") => `(tactic| try simp (config := { maxSteps := 400000 }) only [gNotInX, gIxK, gNotInK, gInK, wFld, wUnM, back1, Dl.isObj, gIsN, gAny, gAll, gNotN, wSeqX, wIfX, wLift, wLiftE, wRetX, wDropX, wCallX, wRaise, wTupX, wCallA, wCallXK, wCallXPK, wLam, capt, viewL, lamOf, wAct, wTry, wExcF, wIsExc, wIsExcN, wSetX, endsNil, wMake, gInt1, wJoin, gStr, gMul, lcBody, wipeD, back, Option.getD_some, wSeq, wIfS, wAnd, wOr, wNot, wRet, wDrop, wNext, wBrk, wCnt, wAndV, wOrV, wNotV, wB, wIf, wCB, wArgs, wVar, wC, wTup, wLst, wOp, wChain, wNeg, wSl, wP, wNoP, wSet, wPar, wAsg, wCall, wCallP, wCallN, wApp, wExt, wMt, gApp, gExt, wSetIx, wSeqI, wRng1, wRng2, wZip, wEnum, wFor, withL, lookL, lookD, with2, frz, frzL, prep, put, notLent, kindO, gTp, gNms, gNm, O.d, itemsOf, leave, endsOf, outsOf, clean, wYes, wK, CE.s, wDct0, wDct1, wRev, wRev2, wPop, wSortSet, wSortSet2, gEqNil, gNotB, wParN, wTupAsg, prepL, putL, wEnum2, wCallK, perm, gIsB, gRepr, List.getD_cons_zero, List.getD_cons_succ, wFg, wFgL, fgs, fg1, wFz, fzs, fz1, gTpG, gAllT, wTupS, wLstS, wArgsS, wLenSet, gIn_tup, gIn_lst, gNotIn_tup, gNotIn_lst, gEq_int, gNe_int, gEq_str, gNe_str,
    gI, gIC, Dl.gSub, gFdiv, gMod, gPow, gLt, gLe, gGt, gGe, gAdd, gMul, gIsN, gNotN, Dl.isNon, gIx, gSl, gLen, gAbs, gInt1, gMax2, gMin2, gTuple, gList, gIsi, atI_0, atI_1, atI_2, atI_m1, ixN_30, ixN_32,
    List.getElem?_cons_zero, List.getElem?_cons_succ, List.set_cons_zero, List.set_cons_succ, List.cons_append, List.nil_append, List.append_nil, List.replicate, List.length_cons, List.length_nil, List.map_cons, List.map_nil, Nat.reduceAdd, Nat.reduceSub, Nat.add_one_sub_one,
    true_and, and_true, if_true, if_false, Bool.false_eq_true, Bool.not_true, Bool.not_false, reduceIte, ite_true, ite_false, decide_true, decide_false])
namespace Tk
theorem sh_tupS {n : Nat} {ds : List D} (h : ∀ e ∈ ds, Sh n e) : Sh (n + 1) (.tup ds) := by
  obtain ⟨a, b, c⟩ := shL h
  exact ⟨a, b, Nat.add_le_add_right c 1⟩
theorem sh_lstS {n : Nat} {ds : List D} (h : ∀ e ∈ ds, Sh n e) : Sh (n + 1) (.lst ds) := by
  obtain ⟨a, b, c⟩ := shL h
  exact ⟨a, b, Nat.add_le_add_right c 1⟩
theorem gEq_self {n : Nat} {d : D} {k : Dl.Slot → Prop} (h : Sh n d) (hn : n ≤ 64) : gEq d d k = k (.fro (.bl true)) := by
  rw [gEq_sh (h.sh hn) (h.sh hn), PySem.SeqAt.eqv_refl _ h.2.1]
theorem gNe_self {n : Nat} {d : D} {k : Dl.Slot → Prop} (h : Sh n d) (hn : n ≤ 64) : gNe d d k = k (.fro (.bl false)) := by
  rw [gNe_sh (h.sh hn) (h.sh hn), PySem.SeqAt.eqv_refl _ h.2.1]; rfl
inductive DueW (a s m : D) : Option (Str × Str × D) → D → O → Prop
  | col (o : O) : colB a = false → DueW a s m (some ("BadColumn", "value", a)) (.tup [.str "column", .str (pyD a).shown]) o
  | rng (o : O) : colB a = true → ¬ TakenD s → DueW a s m (some ("BadRanges", "value", s)) (.tup [.str "ranges", .str (pyD s).shown]) o
  | flg (o : O) : colB a = true → TakenD s → isBlD m = false → DueW a s m (some ("BadFlag", "value", m)) (.tup [.str "flag", .str (pyD m).shown]) o
  | ok (c : Str) (R : RS) (b : Bool) : a = .str c → s = rsD R → m = .bl b → colB a = true → CondIn R → c.length ≤ 8 → DueW a s m none (.tup [.str "told", .str (condT c R b)]) (quesC c R b)
theorem due_is (a s m : D) : ∃ due w o, DueW a s m due w o := by
  by_cases h1 : colB a = true
  · by_cases h2 : TakenD s
    · by_cases h3 : isBlD m = true
      · obtain ⟨R, rfl, cR⟩ := h2
        obtain ⟨b, rfl⟩ : ∃ b, m = .bl b := by
          cases m with
          | bl b => exact ⟨b, rfl⟩
          | _ => cases h3
        obtain ⟨c, rfl⟩ : ∃ c, a = .str c := by
          cases a with
          | str c => exact ⟨c, rfl⟩
          | _ => cases h1
        have hl8 : c.length ≤ 8 := by
          have h := h1
          have e : colB (.str c) = ((decide (1 ≤ (c.length : Int)) && decide ((c.length : Int) ≤ 8)) && (!inD (.str c) [.str "and", .str "or"] && c.cps.toList.all smallB)) := rfl
          rw [e, Bool.and_eq_true, Bool.and_eq_true, decide_eq_true_eq, decide_eq_true_eq] at h
          omega
        exact ⟨_, _, _, .ok c R b rfl rfl rfl h1 cR hl8⟩
      · exact ⟨_, _, .lst [], .flg _ h1 h2 (by cases h : isBlD m with | true => exact absurd h h3 | false => rfl)⟩
    · exact ⟨_, _, .lst [], .rng _ h1 h2⟩
  · exact ⟨_, _, .lst [], .col _ (by cases h : colB a with | true => exact absurd h h1 | false => rfl)⟩
def metD : Option (Str × Str × D) → O → D
  | some (c, _, v), _ => .tup [.str (wdM c), .str (pyD v).shown]
  | none, o => .tup [.str "told", o.d]
theorem metD_some {c f : Str} {v : D} {o : O} : metD (some (c, f, v)) o = .tup [.str (wdM c), .str (pyD v).shown] := rfl
theorem metD_none {o : O} : metD none o = .tup [.str "told", o.d] := rfl
def C__law_due : WE := fun args Q => ∃ (a s m : D) (due : Option (Str × Str × D)) (w : D) (o : O), args = [.fro a, .fro s, .fro m] ∧ FineC a ∧ FineC s ∧ FineC m ∧ DueW a s m due w o ∧ Q (.fro w) args
def C__law_shown : WE := fun args Q => ∃ (a s m : D) (due : Option (Str × Str × D)) (w : D) (o : O), args = [.fro (metD due o), .fro a] ∧ DueW a s m due w o ∧ FineC a ∧ Q (.fro w) args
def wr__law_due_1 : WS := (wRet (wTup [(wC (.str "told")), (wCall C__law_con_text [(wTup [(wC (.str "con")), (wVar 0), (wVar 1), (wVar 2)])])]))
def wr__law_due_2 : WS := (wSeq (wIfS (wNot (wB (wCB gIsi [(wVar 2), (wC (.raw (.ty "bool")))]))) (wRet (wTup [(wC (.str "flag")), (wCB gRepr [(wVar 2)])])) wNext)
  wr__law_due_1)
def wr__law_due_3 : WS := (wSeq (wIfS (wOr (wNot (wB (wCall C__law_is_set [(wVar 1)]))) (wOr (wB (wOp gGt (wCB gLen [(wVar 1)]) (wC (.int 4)))) (wB (wCB gAny [(wLc (wSeqI (wVar 1)) (gTp [3, 4]) wYes (wOrV (wOp gLt (wVar 3) (wNeg (wC (.int 9999)))) (wOp gGt (wVar 4) (wC (.int 9999)))) [3, 4])])))) (wRet (wTup [(wC (.str "ranges")), (wCB gRepr [(wVar 1)])])) wNext)
  wr__law_due_2)
def w__law_due : WS := (wSeq (wIfS (wNot (wB (wCall C__law_is_name [(wVar 0)]))) (wRet (wTup [(wC (.str "column")), (wCB gRepr [(wVar 0)])])) wNext)
  wr__law_due_3)
def wr__law_shown_1 : WS := (wRet (wIf (wB (wOp gEq (wUnM "Question" C_Question_columns (wOp gIx (wVar 0) (wC (.int 1)))) (wTup [(wVar 1)]))) (wTup [(wC (.str "told")), (wFld "Question" "string" (wOp gIx (wVar 0) (wC (.int 1))))]) (wTup [(wC (.str "told")), (wC .non)])))
def w__law_shown : WS := (wSeq (wIfS (wB (wOp gNe (wOp gIx (wVar 0) (wC (.int 0))) (wC (.str "told")))) (wRet (wVar 0)) wNext)
  wr__law_shown_1)
theorem FineC.rep {d : D} (h : FineC d) : reprOk d := h.fine.ok (by decide) (by decide)
theorem FineC.any {d : D} (h : FineC d) : AnyOk d := h.fine.any (by decide)
def outD : D → D
  | .tup [.int a, .int b] => .bl (decide (a < -9999) || decide (9999 < b))
  | _ => .non
theorem out_bools (R : RS) : boolsOf ((R.map pairD).map outD) = some (R.map fun p => decide (p.1 < -9999) || decide (9999 < p.2)) := by
  rw [List.map_map]
  exact boolsOf_map (fun p : Int × Int => decide (p.1 < -9999) || decide (9999 < p.2)) R
theorem out_any {R : RS} : (R.map fun p => decide (p.1 < -9999) || decide (9999 < p.2)).any id = false ↔ Within (-9999) 9999 R := by
  rw [List.any_map, List.any_eq_false]
  constructor
  · intro h p hp
    have := h p hp
    simp only [Function.comp, id, Bool.or_eq_true, decide_eq_true_eq, not_or] at this
    omega
  · intro h p hp
    have := h p hp
    simp only [Function.comp, id, Bool.or_eq_true, decide_eq_true_eq, not_or]
    omega
theorem ok__law_due (args : List Dl.Slot) (Q : Dl.Slot → List Dl.Slot → Prop) (hl : args.length = 3) (h : C__law_due args Q) : noOwn args ∧ w__law_due (endsOf args Q) (args ++ List.replicate (5 - 3) .nil) := by
  obtain ⟨a, s, m, due, w, o, rfl, fa, fs, fm, hD, hq⟩ := h
  refine ⟨noOwn3 _ _ _, ?_⟩
  unfold w__law_due
  generalize hK : endsOf [.fro a, .fro s, .fro m] Q = KD
  have hret : ∀ (ρ : List Dl.Slot), KD.rt (.fro w) ρ := fun ρ => by subst hK; exact rtF [_, _, _] hq
  clear hK hq
  walk_at "dl"
  refine ⟨a, rfl, fa.any, ?_⟩
  cases hc : colB a with
  | false =>
    walk_at "dl"
    cases hD with
    | col _ _ => exact ⟨fa.rep, by decide, hret _⟩
    | rng _ h => rw [hc] at h; cases h
    | flg _ h => rw [hc] at h; cases h
    | ok _ _ _ _ _ _ h => rw [hc] at h; cases h
  | true =>
    walk_at "dl"
    unfold wr__law_due_3
    walk_at "dl"
    refine ⟨s, rfl, fs.any.1, fun ds e => ?_, ?_⟩
    · subst e; have := fs.any.tup.1; omega
    cases hr : isRsD s with
    | false =>
      walk_at "dl"
      have no : ¬ TakenD s := fun ⟨R, e, c⟩ => by rw [e, isRs_canon c.can] at hr; cases hr
      cases hD with
      | col _ h => rw [hc] at h; cases h
      | rng _ _ => exact ⟨fs.rep, by decide, hret _⟩
      | flg _ _ h => exact absurd h no
      | ok c R b _ e _ _ cR => exact absurd ⟨R, e, cR⟩ no
    | true =>
      obtain ⟨R, rfl, cR⟩ := rs_of hr
      have bad : ¬ TakenD (rsD R) → w = .tup [.str "ranges", .str (pyD (rsD R)).shown] := fun no => by
        cases hD with
        | col _ h => rw [hc] at h; cases h
        | rng _ _ => rfl
        | flg _ _ h => exact absurd h no
        | ok c R' b _ e _ _ cR => exact absurd ⟨R', e, cR⟩ no
      walk_at "dl"
      have ed : rsD R = .tup (R.map pairD) := rfl
      rw [ed]
      rw [ed] at bad fs
      walk_at "dl"
      rw [List.length_map]
      by_cases h4 : (4 : Int) < ((R.length : Nat) : Int)
      · rw [decide_eq_true h4]
        walk_at "dl"
        have no : ¬ TakenD (rsD R) := fun ⟨R', e, c⟩ => by
          have := rsD_inj e
          subst this
          have := c.len
          omega
        have := bad no
        subst this
        exact ⟨fs.rep, by decide, hret _⟩
      · rw [decide_eq_false h4]
        unfold wLc
        walk_at "dl"
        refine lc_map (wi := wSeqI (wVar 1)) outD (R.map pairD) (by rw [List.length_map]; omega) (fun d hd k1 k0 hk => ?_) ?_
        · obtain ⟨p, hp, rfl⟩ := List.mem_map.mp hd
          unfold pairD at hk ⊢
          unfold outD at hk
          dsimp only at hk
          walk_at "dl"
          by_cases hx : p.1 < -9999
          · rw [decide_eq_true hx, Bool.true_or] at hk
            rw [if_pos (decide_eq_true hx)]
            exact hk
          · rw [decide_eq_false hx, Bool.false_or] at hk
            rw [if_neg (by rw [decide_eq_true_eq]; exact hx)]
            exact hk
        · simp only [Dl.gAny, out_bools, Option.map_some]
          cases hany : (R.map fun p => decide (p.1 < -9999) || decide (9999 < p.2)).any id with
          | true =>
            have no : ¬ TakenD (rsD R) := fun ⟨R', e, c⟩ => by
              have := rsD_inj e
              subst this
              have := out_any.2 c.ins
              rw [hany] at this
              cases this
            have := bad no
            subst this
            walk_at "dl"
            exact ⟨fs.rep, by decide, hret _⟩
          | false =>
            have ht : CondIn R := ⟨⟨cR, by omega⟩, out_any.1 hany⟩
            walk_at "dl"
            unfold wr__law_due_2
            walk_at "dl"
            rw [isD_bool fm.any.typed]
            cases hb : isBlD m with
            | false =>
              have : w = .tup [.str "flag", .str (pyD m).shown] := by
                cases hD with
                | col _ h => rw [hc] at h; cases h
                | rng _ _ h => exact absurd ⟨R, rfl, ht⟩ h
                | flg _ _ _ => rfl
                | ok c R' b _ _ e _ _ => rw [e] at hb; cases hb
              subst this
              walk_at "dl"
              exact ⟨fm.rep, by decide, hret _⟩
            | true =>
              obtain ⟨c, b, rfl, rfl, hw, h8⟩ : ∃ c b, a = .str c ∧ m = .bl b ∧ w = .tup [.str "told", .str (condT c R b)] ∧ c.length ≤ 8 := by
                cases hD with
                | col _ h => rw [hc] at h; cases h
                | rng _ _ h => exact absurd ⟨R, rfl, ht⟩ h
                | flg _ _ _ h => rw [hb] at h; cases h
                | ok c R' b e1 e2 e3 _ _ h8 =>
                  have := rsD_inj e2
                  subst this
                  exact ⟨c, b, e1, e3, rfl, h8⟩
              subst hw
              walk_at "dl"
              unfold wr__law_due_1
              walk_at "dl"
              refine ⟨by decide, c, R, b, rfl, h8, ht, ?_⟩
              walk_at "dl"
              exact ⟨by decide, hret _⟩
theorem ok__law_shown (args : List Dl.Slot) (Q : Dl.Slot → List Dl.Slot → Prop) (hl : args.length = 2) (h : C__law_shown args Q) : noOwn args ∧ w__law_shown (endsOf args Q) (args ++ List.replicate (2 - 2) .nil) := by
  obtain ⟨a, s, m, due, w, o, rfl, hD, fa, hq⟩ := h
  refine ⟨noOwn2 _ _, ?_⟩
  unfold w__law_shown
  generalize hK : endsOf [.fro (metD due o), .fro a] Q = KD
  have hret : ∀ (ρ : List Dl.Slot), KD.rt (.fro w) ρ := fun ρ => by subst hK; exact rtF [_, _] hq
  clear hK hq
  cases hD with
  | col _ _ =>
    rw [metD_some, show wdM "BadColumn" = "column" by decide +kernel]
    walk_at "dl"
    rw [decide_eq_false (by decide +kernel)]
    walk_at "dl"
    exact hret _
  | rng _ _ =>
    rw [metD_some, show wdM "BadRanges" = "ranges" by decide +kernel]
    walk_at "dl"
    rw [decide_eq_false (by decide +kernel)]
    walk_at "dl"
    exact hret _
  | flg _ _ _ =>
    rw [metD_some, show wdM "BadFlag" = "flag" by decide +kernel]
    walk_at "dl"
    rw [decide_eq_false (by decide +kernel)]
    walk_at "dl"
    exact hret _
  | ok c R b e1 e2 e3 hc cR h8 =>
    subst e1
    rw [metD_none]
    unfold quesC
    walk_at "dl"
    unfold wr__law_shown_1
    walk_at "dl"
    refine ⟨_, _, [c], rfl, ?_⟩
    walk_at "dl"
    have hs : Sh 1 (.tup [.str c]) := sh_tupS (ds := [.str c]) fun e he => by rw [List.mem_singleton.mp he]; exact sh_str fa.cln
    refine ⟨by decide, ?_⟩
    rw [gEq_self hs (by decide)]
    rw [show List.lookup ("string" : Str) [("tree", condD c R b), ("column_list", D.lst [.str c]), ("string", D.str (condT c R b))] = some (.str (condT c R b)) from by
      rw [List.lookup_cons, show (("string" : Str) == "tree") = false by decide +kernel, List.lookup_cons, show (("string" : Str) == "column_list") = false by decide +kernel, List.lookup_cons, show (("string" : Str) == "string") = true by decide +kernel]]
    exact ⟨by decide, hret _⟩
end Tk
end Lw
namespace Lw
open PySem L2 Dl Rs
local macro_rules | `(tactic| walk_at "dl") => `(tactic| try simp (config := { maxSteps := 400000 }) only [gNotInX, gIxK, gNotInK, gInK, wFld, wUnM, back1, Dl.isObj, gIsN, gAny, gAll, gNotN, wSeqX, wIfX, wLift, wLiftE, wRetX, wDropX, wCallX, wRaise, wTupX, wCallA, wCallXK, wCallXPK, wLam, capt, viewL, lamOf, wAct, wTry, wExcF, wIsExc, wIsExcN, wSetX, endsNil, wMake, gInt1, wJoin, gStr, gMul, lcBody, wipeD, back, Option.getD_some, wSeq, wIfS, wAnd, wOr, wNot, wRet, wDrop, wNext, wBrk, wCnt, wAndV, wOrV, wNotV, wB, wIf, wCB, wArgs, wVar, wC, wTup, wLst, wOp, wChain, wNeg, wSl, wP, wNoP, wSet, wPar, wAsg, wCall, wCallP, wCallN, wApp, wExt, wMt, gApp, gExt, wSetIx, wSeqI, wRng1, wRng2, wZip, wEnum, wFor, withL, lookL, lookD, with2, frz, frzL, prep, put, notLent, kindO, gTp, gNms, gNm, O.d, itemsOf, leave, endsOf, outsOf, clean, wYes, wK, CE.s, wDct0, wDct1, wRev, wRev2, wPop, wSortSet, wSortSet2, gEqNil, gNotB, wParN, wTupAsg, prepL, putL, wEnum2, wCallK, perm, gIsB, gRepr, List.getD_cons_zero, List.getD_cons_succ, wFg, wFgL, fgs, fg1, wFz, fzs, fz1, gTpG, gAllT, wTupS, wLstS, wArgsS, wLenSet, gIn_tup, gIn_lst, gNotIn_tup, gNotIn_lst, gEq_int, gNe_int, gEq_str, gNe_str,
    gI, gIC, Dl.gSub, gFdiv, gMod, gPow, gLt, gLe, gGt, gGe, gAdd, gMul, gIsN, gNotN, Dl.isNon, gIx, gSl, gLen, gAbs, gInt1, gMax2, gMin2, gTuple, gList, gIsi, atI_0, atI_1, atI_2, atI_m1, ixN_30, ixN_32,
    List.getElem?_cons_zero, List.getElem?_cons_succ, List.set_cons_zero, List.set_cons_succ, List.cons_append, List.nil_append, List.append_nil, List.replicate, List.length_cons, List.length_nil, List.map_cons, List.map_nil, Nat.reduceAdd, Nat.reduceSub, Nat.add_one_sub_one,
    true_and, and_true, if_true, if_false, Bool.false_eq_true, Bool.not_true, Bool.not_false, reduceIte, ite_true, ite_false, decide_true, decide_false])
namespace Tk
def C__law_right : WE := fun args Q => ∃ (n : Int) (o : O), args = [.own true o] ∧ Pot n o ∧ n + 6100 < 7000000 ∧ ∀ o', Q (.fro (.bl true)) [.own true o']
def C_law : WE := fun args Q => ∃ ns : List Int, args = [.fro (.arg ns)] ∧ Q (.fro (.bl true)) args
def wr__law_right_1 : WS := (wFg [2, 3, 9] (wIfS (wB (wOp gNe (wCall C__law_shown [(wVar 9), (wVar 2)]) (wCall C__law_due [(wVar 2), (wVar 3), (wC (.bl false))]))) (wRet (wC (.bl false))) wNext))
def wr__law_right_2 : WS := (wSeq (wFz [9] (wSet 9 (wLam C__law_met [2, 3] (wCallXPK X_where [(wVar 2), (wVar 3)] [(wC (.bl false))]))))
  wr__law_right_1)
def wr__law_right_3 : WS := (wSeq (wFg [4, 5, 6, 7] (wIfS (wOr (wB (wOp gNe (wLc (wSeqI (wVar 7)) (gNm 8) wYes (wCall C__law_shown [(wVar 8), (wVar 2)]) [8]) (wLst [(wVar 6), (wVar 6)]))) (wB (wOp gNe (wCB gRepr [(wLst [(wVar 2), (wVar 3), (wVar 4)])]) (wVar 5)))) (wRet (wC (.bl false))) wNext))
  wr__law_right_2)
def wr__law_right_4 : WS := (wSeq (wDrop (wApp 7 (wLam C__law_met [2, 3, 4] (wCallXK X_where [(wVar 4), (wVar 3), (wVar 2)] [2, 1, 0]))))
  wr__law_right_3)
def wr__law_right_5 : WS := (wSeq (wSet 7 (wLst [(wLam C__law_met [2, 3, 4] (wCallXPK X_where [(wVar 2), (wVar 3)] [(wVar 4)]))]))
  wr__law_right_4)
def wr__law_right_6 : WS := (wSeq (wFz [6] (wPar 5 6 (wCB gRepr [(wLst [(wVar 2), (wVar 3), (wVar 4)])]) (wCall C__law_due [(wVar 2), (wVar 3), (wVar 4)])))
  wr__law_right_5)
def wb__law_right_7 : WS := (wFgL [1, 2, 3, 4, 5, 6, 7, 9] [] (wSeq (wAsg (wCallP C__law_three 0 []) (gTp [2, 3, 4]))
  wr__law_right_6))
def wr__law_right_8 : WS := (wRet (wC (.bl true)))
def w__law_right : WS := (wSeq (wFg [1, 2, 3, 4, 5, 6, 7, 9] (wFor (wRng1 [(wC (.int 60))]) (gNm 1) wb__law_right_7))
  wr__law_right_8)
def wb_law_1 : WS := (wFgL [1] [] (wFg [1] (wIfS (wNot (wB (wCallN C__law_right (wCall C__law_pot [(wVar 0), (wVar 1)])))) (wRet (wC (.bl false))) wNext)))
def wr_law_2 : WS := (wRet (wC (.bl true)))
def w_law : WS := (wSeq (wFg [1] (wFor (wRng1 [(wCB gMax2 [(wC (.int 1)), (wCB gMin2 [(wC (.int 3)), (wCB gLen [(wVar 0)])])])]) (gNm 1) wb_law_1))
  wr_law_2)
def onDue (due : Option (Str × Str × D)) (ex : XD) (P : Prop) : Prop := match due with
  | some (c, f, v) => ex c f v
  | none => P
theorem where_due {a s m : D} {due : Option (Str × Str × D)} {w : D} {o : O} {ex : XD} {Q : Dl.Slot → List Dl.Slot → Prop} (fa : FineC a) (fs : FineC s) (fm : FineC m) (hD : DueW a s m due w o) (h : onDue due ex (Q (.own false o) [.fro a, .fro s, .fro m])) : X_where ex [.fro a, .fro s, .fro m] Q := by
  refine ⟨a, s, m, rfl, fa.any, fs.any, fm.any, ?_⟩
  cases hD with
  | col _ hc => exact ⟨fun _ => h, fun z => (by rw [hc] at z; cases z), fun z => (by rw [hc] at z; cases z), fun c R b _ _ _ z => (by rw [hc] at z; cases z)⟩
  | rng _ hc hn => exact ⟨fun z => (by rw [hc] at z; cases z), fun _ _ => h, fun _ z => absurd z hn, fun c R b _ e _ _ cR => absurd ⟨R, e, cR⟩ hn⟩
  | flg _ hc ht hb => exact ⟨fun z => (by rw [hc] at z; cases z), fun _ z => absurd ht z, fun _ _ _ => h, fun c R b _ _ e _ _ => by rw [e] at hb; cases hb⟩
  | ok c R b e1 e2 e3 hc cR h8 =>
    subst e1
    subst e2
    subst e3
    refine ⟨fun z => (by rw [hc] at z; cases z), fun _ z => absurd ⟨R, rfl, cR⟩ z, fun _ _ z => (nomatch z), fun c' R' b' e1 e2 e3 _ _ => ?_⟩
    cases e1
    cases e3
    have := rsD_inj e2
    subst this
    exact h
theorem sh_w {a s m : D} {due : Option (Str × Str × D)} {w : D} {o : O} (fa : FineC a) (fs : FineC s) (fm : FineC m) (hD : DueW a s m due w o) : Sh 1 w := by
  have two : ∀ x y : Str, okS x → okS y → Sh 1 (.tup [.str x, .str y]) := fun x y hx hy => sh_tupS fun e he => by
    simp only [List.mem_cons, List.not_mem_nil, or_false] at he
    rcases he with rfl | rfl
    · exact sh_str hx
    · exact sh_str hy
  cases hD with
  | col _ _ => exact two _ _ (okS_of _) (okS_shown fa.cln)
  | rng _ _ _ => exact two _ _ (okS_of _) (okS_shown fs.cln)
  | flg _ _ _ _ => exact two _ _ (okS_of _) (okS_shown fm.cln)
  | ok c R b e1 _ _ _ _ _ =>
    subst e1
    refine two _ _ (okS_of _) ?_
    unfold condT
    refine okS_append (okS_append fa.cln (okS_of _)) ?_
    split
    · exact okS_of _
    · rw [TL.join_eq]
      exact okS_join (okS_of ",") _ okS_words
theorem due_err {a s m : D} {due : Option (Str × Str × D)} {w : D} {o : O} (fa : FineC a) (fs : FineC s) (fm : FineC m) (hD : DueW a s m due w o) {P : D → Prop} (h : P (metD due o)) : (∀ c f v, due = some (c, f, v) → (c, f) ∈ errs ∧ reprOk v ∧ P (.tup [.str (wdM c), .str (pyD v).shown])) ∧ (due = none → P (.tup [.str "told", o.d])) := by
  cases hD with
  | col _ _ => exact ⟨fun c f v e => by cases e; exact ⟨by simp [errs], fa.rep, h⟩, fun e => nomatch e⟩
  | rng _ _ _ => exact ⟨fun c f v e => by cases e; exact ⟨by simp [errs], fs.rep, h⟩, fun e => nomatch e⟩
  | flg _ _ _ _ => exact ⟨fun c f v e => by cases e; exact ⟨by simp [errs], fm.rep, h⟩, fun e => nomatch e⟩
  | ok c R b _ _ _ _ _ _ => exact ⟨fun c f v e => (nomatch e), fun _ => h⟩
theorem three_rep {a s m : D} (fa : FineC a) (fs : FineC s) (fm : FineC m) : reprOk (.lst [a, s, m]) := (fine_lst (w := 12000) (dp := 40) (n := 3) (fun e he => by
  simp only [List.mem_cons, List.not_mem_nil, or_false] at he
  rcases he with rfl | rfl | rfl
  · exact fa.fine
  · exact fs.fine
  · exact fm.fine) (by simp)).ok (by decide) (by decide)
theorem fine_bl (b : Bool) : FineC (.bl b) := ⟨⟨rfl, by show 1 ≤ 12000; decide, by show 0 ≤ 40; decide⟩, rfl⟩
theorem right1 {KD : DEnds} {n : Int} {o : O} {a s : D} (fa : FineC a) (fs : FineC s) (t : Dl.Slot) (hk : KD.nx [.own true o, t, .nil, .nil, .nil, .nil, .nil, .nil, .nil, .nil]) :
    wr__law_right_2 KD [.own true o, t, .fro a, .fro s, .nil, .nil, .nil, .nil, .nil, .nil] := by
  obtain ⟨due, w, ob, hD⟩ := due_is a s (.bl false)
  have fm := fine_bl false
  unfold wr__law_right_2
  walk_at "dl"
  have base : wr__law_right_1 KD [.own true o, t, .fro a, .fro s, .nil, .nil, .nil, .nil, .nil, .fro (metD due ob)] := by
    unfold wr__law_right_1
    walk_at "dl"
    refine ⟨a, s, .bl false, due, w, ob, rfl, hD, fa, ?_⟩
    walk_at "dl"
    refine ⟨a, s, .bl false, due, w, ob, rfl, fa, fs, fm, hD, ?_⟩
    walk_at "dl"
    rw [gNe_self (sh_w fa fs fm hD) (by decide)]
    walk_at "dl"
    exact hk
  obtain ⟨h1, h2⟩ := due_err fa fs fm hD (P := fun v => wr__law_right_1 KD [.own true o, t, .fro a, .fro s, .nil, .nil, .nil, .nil, .nil, .fro v]) base
  refine ⟨due, ob, h1, h2, fun Qn Qx h => ?_⟩
  walk_at "dl"
  refine where_due fa fs fm hD ?_
  cases due with
  | none => exact h
  | some x => exact h
theorem two_lst {w : D} (h : Sh 1 w) : Sh 2 (.lst [w, w]) := sh_lstS fun e he => by
  simp only [List.mem_cons, List.not_mem_nil, or_false] at he
  rcases he with rfl | rfl <;> exact h
theorem lc_shown {o : O} {t x5 x6 : Dl.Slot} {a s m : D} {due : Option (Str × Str × D)} {w : D} {ob : O} {Q : Dl.Slot → List Dl.Slot → Prop} (fa : FineC a) (hD : DueW a s m due w ob) (hq : Q (.own false (.lst [w, w])) [.own true o, t, .fro a, .fro s, .fro m, x5, x6, .fro (.lst [metD due ob, metD due ob]), .nil, .nil]) :
    wLc (wSeqI (wVar 7)) (gNm 8) wYes (wCall C__law_shown [(wVar 8), (wVar 2)]) [8] [.own true o, t, .fro a, .fro s, .fro m, x5, x6, .own false (.lst [metD due ob, metD due ob]), .nil, .nil] Q := by
  unfold wLc
  walk_at "dl"
  refine lc_map (wi := wSeqI (wVar 7)) (fun _ => w) [metD due ob, metD due ob] (by simp) (fun d hd k1 k0 hk => ?_) ?_
  · have hd : d = metD due ob := by
      simp only [List.mem_cons, List.not_mem_nil, or_false] at hd
      rcases hd with rfl | rfl <;> rfl
    subst hd
    walk_at "dl"
    refine ⟨a, s, m, due, w, ob, rfl, hD, fa, ?_⟩
    walk_at "dl"
    exact hk
  · exact hq
theorem right3 {KD : DEnds} {n : Int} {o : O} {a s m : D} {due : Option (Str × Str × D)} {w : D} {ob : O} (fa : FineC a) (fs : FineC s) (fm : FineC m) (hD : DueW a s m due w ob) (t : Dl.Slot) (hk : KD.nx [.own true o, t, .nil, .nil, .nil, .nil, .nil, .nil, .nil, .nil]) :
    wr__law_right_3 KD [.own true o, t, .fro a, .fro s, .fro m, .fro (.str (pyD (.lst [a, s, m])).shown), .fro w, .own false (.lst [metD due ob, metD due ob]), .nil, .nil] := by
  have hw := two_lst (sh_w fa fs fm hD)
  have hrp := three_rep fa fs fm
  have tail := right1 (KD := KD) (n := n) fa fs t hk
  generalize hW : wr__law_right_2 = W at tail
  unfold wr__law_right_3 wSeq wFg wIfS wOr wB wOp
  rw [hW]
  refine lc_shown fa hD ?_
  clear hk hW
  walk_at "dl"
  refine ⟨by decide, ?_⟩
  rw [gNe_self hw (by decide)]
  walk_at "dl"
  exact ⟨by decide, hrp, tail⟩
theorem right4 {KD : DEnds} {n : Int} {o : O} {a s m : D} {due : Option (Str × Str × D)} {w : D} {ob : O} (fa : FineC a) (fs : FineC s) (fm : FineC m) (hD : DueW a s m due w ob) (t : Dl.Slot) (hk : KD.nx [.own true o, t, .nil, .nil, .nil, .nil, .nil, .nil, .nil, .nil]) :
    wr__law_right_4 KD [.own true o, t, .fro a, .fro s, .fro m, .fro (.str (pyD (.lst [a, s, m])).shown), .fro w, .own false (.lst [metD due ob]), .nil, .nil] := by
  have r3 := right3 (KD := KD) (n := n) fa fs fm hD t hk
  unfold wr__law_right_4
  generalize wr__law_right_3 = W at r3 ⊢
  clear hk
  walk_at "dl"
  obtain ⟨h1, h2⟩ := due_err fa fs fm hD (P := fun v => [metD due ob].length < sizeLine ∧ W KD [.own true o, t, .fro a, .fro s, .fro m, .fro (.str (pyD (.lst [a, s, m])).shown), .fro w, .own false (.lst ([metD due ob] ++ [v])), .nil, .nil]) ⟨by show 1 < sizeLine; decide, r3⟩
  refine ⟨⟨_, _, rfl, rfl⟩, due, ob, h1, h2, fun Qn Qx h => ?_⟩
  walk_at "dl"
  refine where_due fa fs fm hD ?_
  cases due with
  | none => exact h
  | some x => exact h
theorem right5 {KD : DEnds} {n : Int} {o : O} {a s m : D} {due : Option (Str × Str × D)} {w : D} {ob : O} (fa : FineC a) (fs : FineC s) (fm : FineC m) (hD : DueW a s m due w ob) (t : Dl.Slot) (hk : KD.nx [.own true o, t, .nil, .nil, .nil, .nil, .nil, .nil, .nil, .nil]) :
    wr__law_right_5 KD [.own true o, t, .fro a, .fro s, .fro m, .fro (.str (pyD (.lst [a, s, m])).shown), .fro w, .nil, .nil, .nil] := by
  have r4 := right4 (KD := KD) (n := n) fa fs fm hD t hk
  unfold wr__law_right_5
  generalize wr__law_right_4 = W at r4 ⊢
  clear hk
  walk_at "dl"
  obtain ⟨h1, h2⟩ := due_err fa fs fm hD (P := fun v => 1 ≤ sizeLine ∧ W KD [.own true o, t, .fro a, .fro s, .fro m, .fro (.str (pyD (.lst [a, s, m])).shown), .fro w, .own false (.lst [v]), .nil, .nil]) ⟨by decide, r4⟩
  refine ⟨due, ob, h1, h2, fun Qn Qx h => ?_⟩
  walk_at "dl"
  refine where_due fa fs fm hD ?_
  cases due with
  | none => exact h
  | some x => exact h
theorem right6 {KD : DEnds} {n : Int} {o : O} {a s m : D} (fa : FineC a) (fs : FineC s) (fm : FineC m) (t : Dl.Slot) (hk : KD.nx [.own true o, t, .nil, .nil, .nil, .nil, .nil, .nil, .nil, .nil]) :
    wr__law_right_6 KD [.own true o, t, .fro a, .fro s, .fro m, .nil, .nil, .nil, .nil, .nil] := by
  obtain ⟨due, w, ob, hD⟩ := due_is a s m
  have r5 := right5 (KD := KD) (n := n) fa fs fm hD t hk
  unfold wr__law_right_6
  generalize wr__law_right_5 = W at r5 ⊢
  clear hk
  walk_at "dl"
  refine ⟨by decide, three_rep fa fs fm, a, s, m, due, w, ob, rfl, fa, fs, fm, hD, ?_⟩
  walk_at "dl"
  exact r5
end Tk
end Lw
namespace Lw
open PySem L2 Dl Rs
local macro_rules | `(tactic| walk_at "dl") => `(tactic| try simp (config := { maxSteps := 400000 }) only [gNotInX, gIxK, gNotInK, gInK, wFld, wUnM, back1, Dl.isObj, gIsN, gAny, gAll, gNotN, wSeqX, wIfX, wLift, wLiftE, wRetX, wDropX, wCallX, wRaise, wTupX, wCallA, wCallXK, wCallXPK, wLam, capt, viewL, lamOf, wAct, wTry, wExcF, wIsExc, wIsExcN, wSetX, endsNil, wMake, gInt1, wJoin, gStr, gMul, lcBody, wipeD, back, Option.getD_some, wSeq, wIfS, wAnd, wOr, wNot, wRet, wDrop, wNext, wBrk, wCnt, wAndV, wOrV, wNotV, wB, wIf, wCB, wArgs, wVar, wC, wTup, wLst, wOp, wChain, wNeg, wSl, wP, wNoP, wSet, wPar, wAsg, wCall, wCallP, wCallN, wApp, wExt, wMt, gApp, gExt, wSetIx, wSeqI, wRng1, wRng2, wZip, wEnum, wFor, withL, lookL, lookD, with2, frz, frzL, prep, put, notLent, kindO, gTp, gNms, gNm, O.d, itemsOf, leave, endsOf, outsOf, clean, wYes, wK, CE.s, wDct0, wDct1, wRev, wRev2, wPop, wSortSet, wSortSet2, gEqNil, gNotB, wParN, wTupAsg, prepL, putL, wEnum2, wCallK, perm, gIsB, gRepr, List.getD_cons_zero, List.getD_cons_succ, wFg, wFgL, fgs, fg1, wFz, fzs, fz1, gTpG, gAllT, wTupS, wLstS, wArgsS, wLenSet, gIn_tup, gIn_lst, gNotIn_tup, gNotIn_lst, gEq_int, gNe_int, gEq_str, gNe_str,
    gI, gIC, Dl.gSub, gFdiv, gMod, gPow, gLt, gLe, gGt, gGe, gAdd, gMul, gIsN, gNotN, Dl.isNon, gIx, gSl, gLen, gAbs, gInt1, gMax2, gMin2, gTuple, gList, gIsi, atI_0, atI_1, atI_2, atI_m1, ixN_30, ixN_32,
    List.getElem?_cons_zero, List.getElem?_cons_succ, List.set_cons_zero, List.set_cons_succ, List.cons_append, List.nil_append, List.append_nil, List.replicate, List.length_cons, List.length_nil, List.map_cons, List.map_nil, Nat.reduceAdd, Nat.reduceSub, Nat.add_one_sub_one,
    true_and, and_true, if_true, if_false, Bool.false_eq_true, Bool.not_true, Bool.not_false, reduceIte, ite_true, ite_false, decide_true, decide_false])
namespace Tk
theorem ok__law_right (args : List Dl.Slot) (Q : Dl.Slot → List Dl.Slot → Prop) (hl : args.length = 1) (h : C__law_right args Q) : noOwn args ∧ w__law_right (endsOf args Q) (args ++ List.replicate (10 - 1) .nil) := by
  obtain ⟨n, o, rfl, hp, hn, hq⟩ := h
  refine ⟨noOwnT1, ?_⟩
  unfold w__law_right
  generalize hK : endsOf [.own true o] Q = KD
  have hret : ∀ (o' : O) (ρ : List Dl.Slot), KD.rt (.fro (.bl true)) (.own true o' :: ρ) := fun o' ρ => by subst hK; exact hq o'
  clear hK hq
  walk_at "dl"
  refine ⟨by decide, by decide, ?_⟩
  refine loop_rng 0 _ (fun i ρ => ∃ o', ρ = [.own true o', .nil, .nil, .nil, .nil, .nil, .nil, .nil, .nil, .nil] ∧ Pot (n + 100 * i) o' ∧ i ≤ 60) (fun ρ ⟨o', e, _, _⟩ => ?_) (fun i ρ L hi ⟨o', e, hp', hi6⟩ hL => ?_) _ ⟨o, rfl, hp.mono (by omega), by omega⟩
  · subst e
    walk_at "dl"
    unfold wr__law_right_8
    walk_at "dl"
    exact hret _ _
  · subst e
    have hi' : i < 60 := by omega
    walk_at "dl"
    unfold wb__law_right_7
    generalize hW : wr__law_right_6 = W
    walk_at "dl"
    refine ⟨⟨_, _, rfl⟩, _, o', rfl, hp', by omega, fun a s m o2 fa fs fm hp2 => ?_⟩
    walk_at "dl"
    subst hW
    refine right6 (n := n) fa fs fm _ ?_
    walk_at "dl"
    exact hL _ ⟨o2, rfl, hp2.mono (by omega), by omega⟩
theorem ok_law (args : List Dl.Slot) (Q : Dl.Slot → List Dl.Slot → Prop) (hl : args.length = 1) (h : C_law args Q) : noOwn args ∧ w_law (endsOf args Q) (args ++ List.replicate (2 - 1) .nil) := by
  obtain ⟨ns, rfl, hq⟩ := h
  refine ⟨noOwn1 _, ?_⟩
  unfold w_law
  generalize hK : endsOf [.fro (.arg ns)] Q = KD
  have hret : ∀ (ρ : List Dl.Slot), KD.rt (.fro (.bl true)) (.fro (.arg ns) :: ρ) := fun ρ => by subst hK; exact hq
  clear hK hq
  walk_at "dl"
  refine ⟨by omega, by omega, ?_⟩
  refine loop_rng 0 _ (fun i ρ => ρ = [.fro (.arg ns), .nil] ∧ i ≤ 3) (fun ρ ⟨e, _⟩ => ?_) (fun i ρ L hi ⟨e, hi3⟩ hL => ?_) _ ⟨rfl, by omega⟩
  · subst e
    walk_at "dl"
    unfold wr_law_2
    walk_at "dl"
    exact hret _
  · subst e
    have hi' : i < 3 := by omega
    walk_at "dl"
    unfold wb_law_1
    walk_at "dl"
    refine ⟨ns, _, rfl, by omega, by omega, fun o hp => ?_⟩
    walk_at "dl"
    refine ⟨0, o, rfl, hp.mono (by omega), by decide, fun o' => ?_⟩
    walk_at "dl"
    exact hL _ ⟨rfl, by omega⟩
theorem law_true (ns : List Int) (hn : ns.length ≤ 63) (Q : Dl.Slot → List Dl.Slot → Prop) (hq : ∀ s, Q (.fro (.bl true)) s) : C_law [.fro (.arg ns)] Q := ⟨ns, rfl, hq _⟩
end Tk
end Lw
namespace Lw
open PySem L2 Dl Rs
namespace Tk
abbrev N_is_integer : List Str := ["value"]
theorem sc_is_integer : FnScope N_is_integer ["value"] (defScope s_is_integer) := ⟨rfl, rfl, rfl, by decide +kernel, rfl, by decide +kernel, by decide +kernel⟩
abbrev N_is_pair : List Str := ["value"]
theorem sc_is_pair : FnScope N_is_pair ["value"] (defScope s_is_pair) := ⟨rfl, rfl, rfl, by decide +kernel, rfl, by decide +kernel, by decide +kernel⟩
abbrev N_is_ranges : List Str := ["value", "pair", "one", "other"]
theorem sc_is_ranges : FnScope N_is_ranges ["value"] (defScope s_is_ranges) := ⟨rfl, rfl, rfl, by decide +kernel, rfl, by decide +kernel, by decide +kernel⟩
abbrev N_united : List Str := ["pairs", "found", "start", "end", "low", "high"]
theorem sc_united : FnScope N_united ["pairs"] (defScope s_united) := ⟨rfl, rfl, rfl, by decide +kernel, rfl, by decide +kernel, by decide +kernel⟩
abbrev N_both : List Str := ["one", "other", "found", "at", "to", "low", "high"]
theorem sc_both : FnScope N_both ["one", "other"] (defScope s_both) := ⟨rfl, rfl, rfl, by decide +kernel, rfl, by decide +kernel, by decide +kernel⟩
abbrev N_either : List Str := ["one", "other"]
theorem sc_either : FnScope N_either ["one", "other"] (defScope s_either) := ⟨rfl, rfl, rfl, by decide +kernel, rfl, by decide +kernel, by decide +kernel⟩
abbrev N_gaps : List Str := ["ranges", "low", "high", "found", "start", "first", "last", "pair"]
theorem sc_gaps : FnScope N_gaps ["ranges", "low", "high"] (defScope s_gaps) := ⟨rfl, rfl, rfl, by decide +kernel, rfl, by decide +kernel, by decide +kernel⟩
abbrev N_without : List Str := ["one", "other"]
theorem sc_without : FnScope N_without ["one", "other"] (defScope s_without) := ⟨rfl, rfl, rfl, by decide +kernel, rfl, by decide +kernel, by decide +kernel⟩
abbrev N_is_column : List Str := ["value", "letter"]
theorem sc_is_column : FnScope N_is_column ["value"] (defScope s_is_column) := ⟨rfl, rfl, rfl, by decide +kernel, rfl, by decide +kernel, by decide +kernel⟩
abbrev N_are_within : List Str := ["ranges"]
theorem sc_are_within : FnScope N_are_within ["ranges"] (defScope s_are_within) := ⟨rfl, rfl, rfl, by decide +kernel, rfl, by decide +kernel, by decide +kernel⟩
abbrev N_is_taken_set : List Str := ["value"]
theorem sc_is_taken_set : FnScope N_is_taken_set ["value"] (defScope s_is_taken_set) := ⟨rfl, rfl, rfl, by decide +kernel, rfl, by decide +kernel, by decide +kernel⟩
abbrev N_columns_in : List Str := ["tree", "part", "column"]
theorem sc_columns_in : FnScope N_columns_in ["tree"] (defScope s_columns_in) := ⟨rfl, rfl, rfl, by decide +kernel, rfl, by decide +kernel, by decide +kernel⟩
abbrev N_widest_in : List Str := ["tree", "part"]
theorem sc_widest_in : FnScope N_widest_in ["tree"] (defScope s_widest_in) := ⟨rfl, rfl, rfl, by decide +kernel, rfl, by decide +kernel, by decide +kernel⟩
abbrev N_settled : List Str := ["tree"]
theorem sc_settled : FnScope N_settled ["tree"] (defScope s_settled) := ⟨rfl, rfl, rfl, by decide +kernel, rfl, by decide +kernel, by decide +kernel⟩
abbrev N_pair_text : List Str := ["low", "high"]
theorem sc_pair_text : FnScope N_pair_text ["low", "high"] (defScope s_pair_text) := ⟨rfl, rfl, rfl, by decide +kernel, rfl, by decide +kernel, by decide +kernel⟩
abbrev N_condition_text : List Str := ["tree", "words", "low", "high", "more"]
theorem sc_condition_text : FnScope N_condition_text ["tree"] (defScope s_condition_text) := ⟨rfl, rfl, rfl, by decide +kernel, rfl, by decide +kernel, by decide +kernel⟩
abbrev N_tree_text : List Str := ["tree", "words", "part", "word"]
theorem sc_tree_text : FnScope N_tree_text ["tree"] (defScope s_tree_text) := ⟨rfl, rfl, rfl, by decide +kernel, rfl, by decide +kernel, by decide +kernel⟩
abbrev N_Question___init__ : List Str := ["self", "tree", "twice", "one", "other"]
theorem sc_Question___init__ : FnScope N_Question___init__ ["self", "tree"] (defScope s_Question___init__) := ⟨rfl, rfl, rfl, by decide +kernel, rfl, by decide +kernel, by decide +kernel⟩
abbrev N_Question_columns : List Str := ["self"]
theorem sc_Question_columns : FnScope N_Question_columns ["self"] (defScope s_Question_columns) := ⟨rfl, rfl, rfl, by decide +kernel, rfl, by decide +kernel, by decide +kernel⟩
abbrev N_where : List Str := ["column", "ranges", "missing"]
theorem sc_where : FnScope N_where ["column", "ranges", "missing"] (defScope s_where) := ⟨rfl, rfl, rfl, by decide +kernel, rfl, by decide +kernel, by decide +kernel⟩
abbrev N__law_pot : List Str := ["_law_script", "_law_k", "_law_cell", "_law_own"]
theorem sc__law_pot : FnScope N__law_pot ["_law_script", "_law_k"] (defScope s__law_pot) := ⟨rfl, rfl, rfl, by decide +kernel, rfl, by decide +kernel, by decide +kernel⟩
abbrev N__law_draw : List Str := ["_law_pot_here", "_law_many", "_law_digit", "_law_prime", "_law_made"]
theorem sc__law_draw : FnScope N__law_draw ["_law_pot_here", "_law_many"] (defScope s__law_draw) := ⟨rfl, rfl, rfl, by decide +kernel, rfl, by decide +kernel, by decide +kernel⟩
abbrev N__law_any : List Str := ["_law_pot_here", "_law_items"]
theorem sc__law_any : FnScope N__law_any ["_law_pot_here", "_law_items"] (defScope s__law_any) := ⟨rfl, rfl, rfl, by decide +kernel, rfl, by decide +kernel, by decide +kernel⟩
abbrev N__law_odd : List Str := ["_law_pot_here", "_law_some", "_law_found", "_law_turn"]
theorem sc__law_odd : FnScope N__law_odd ["_law_pot_here"] (defScope s__law_odd) := ⟨rfl, rfl, rfl, by decide +kernel, rfl, by decide +kernel, by decide +kernel⟩
abbrev N__law_spans : List Str := ["_law_pot_here", "_law_most", "_law_low", "_law_high", "_law_wide", "_law_found", "_law_here", "_law_turn", "_law_end"]
theorem sc__law_spans : FnScope N__law_spans ["_law_pot_here", "_law_most", "_law_low", "_law_high"] (defScope s__law_spans) := ⟨rfl, rfl, rfl, by decide +kernel, rfl, by decide +kernel, by decide +kernel⟩
abbrev N__law_is_integer : List Str := ["_law_thing"]
theorem sc__law_is_integer : FnScope N__law_is_integer ["_law_thing"] (defScope s__law_is_integer) := ⟨rfl, rfl, rfl, by decide +kernel, rfl, by decide +kernel, by decide +kernel⟩
abbrev N__law_is_set : List Str := ["_law_thing", "_law_pair", "_law_one", "_law_low", "_law_high", "_law_at"]
theorem sc__law_is_set : FnScope N__law_is_set ["_law_thing"] (defScope s__law_is_set) := ⟨rfl, rfl, rfl, by decide +kernel, rfl, by decide +kernel, by decide +kernel⟩
abbrev N__law_is_name : List Str := ["_law_thing", "_law_letter"]
theorem sc__law_is_name : FnScope N__law_is_name ["_law_thing"] (defScope s__law_is_name) := ⟨rfl, rfl, rfl, by decide +kernel, rfl, by decide +kernel, by decide +kernel⟩
abbrev N__law_con_text : List Str := ["_law_tree", "_law_told", "_law_low", "_law_high"]
theorem sc__law_con_text : FnScope N__law_con_text ["_law_tree"] (defScope s__law_con_text) := ⟨rfl, rfl, rfl, by decide +kernel, rfl, by decide +kernel, by decide +kernel⟩
abbrev N__law_met : List Str := ["_law_call", "_law_caught", "_law_told", "error"]
theorem sc__law_met : FnScope N__law_met ["_law_call"] (defScope s__law_met) := ⟨rfl, rfl, rfl, by decide +kernel, rfl, by decide +kernel, by decide +kernel⟩
abbrev N__law_three : List Str := ["_law_pot_here", "_law_name", "_law_low", "_law_high", "_law_spans_here", "_law_bare", "_law_some"]
theorem sc__law_three : FnScope N__law_three ["_law_pot_here"] (defScope s__law_three) := ⟨rfl, rfl, rfl, by decide +kernel, rfl, by decide +kernel, by decide +kernel⟩
abbrev N__law_due : List Str := ["_law_name", "_law_spans_here", "_law_bare", "_law_low", "_law_high"]
theorem sc__law_due : FnScope N__law_due ["_law_name", "_law_spans_here", "_law_bare"] (defScope s__law_due) := ⟨rfl, rfl, rfl, by decide +kernel, rfl, by decide +kernel, by decide +kernel⟩
abbrev N__law_shown : List Str := ["_law_told", "_law_name"]
theorem sc__law_shown : FnScope N__law_shown ["_law_told", "_law_name"] (defScope s__law_shown) := ⟨rfl, rfl, rfl, by decide +kernel, rfl, by decide +kernel, by decide +kernel⟩
abbrev N__law_right : List Str := ["_law_pot_here", "_law_turn", "_law_name", "_law_spans_here", "_law_bare", "_law_kept", "_law_due_here", "_law_made", "_law_told", "_law_plain"]
theorem sc__law_right : FnScope N__law_right ["_law_pot_here"] (defScope s__law_right) := ⟨rfl, rfl, rfl, by decide +kernel, rfl, by decide +kernel, by decide +kernel⟩
abbrev N_law : List Str := ["_law_script", "_law_k"]
theorem sc_law : FnScope N_law ["_law_script"] (defScope s_law) := ⟨rfl, rfl, rfl, by decide +kernel, rfl, by decide +kernel, by decide +kernel⟩
section
variable {P : Program} {w : World} {K : PySem.W.Frag} {mg : Str → Option Value} {base : Heap} [TabN]
theorem fn_is_integer {f : Addr} {fd : FuncData} (F : Fun K "is_integer" "is_integer" s_is_integer f fd) (m_int : mg "int" = none) (m_isinstance : mg "isinstance" = none) (m_bool : mg "bool" = none)     : FnG P w K mg base CX0 1 f fd ["value"] (spOf K 1 C_is_integer) :=
  def_ok (k := 0) F sc_is_integer (fun cdv A outer s H E hr hgu => (show MSs _ _ w_is_integer from (mss_one (ms_ret (me_and (me_callB cd_isi (by rfl) m_isinstance (by decide +kernel) (ma_cons (me_var (pv 0)) (ma_cons (me_bltn (by rfl) m_int (by decide +kernel)) ma_nil))) (me_one (me_not (me_callB cd_isi (by rfl) m_isinstance (by decide +kernel) (ma_cons (me_var (pv 0)) (ma_cons (me_bltn (by rfl) m_bool (by decide +kernel)) ma_nil)))))))))) ok_is_integer
theorem fn_is_pair {f : Addr} {fd : FuncData} (F : Fun K "is_pair" "is_pair" s_is_pair f fd) (m_tuple : mg "tuple" = none) (m_isinstance : mg "isinstance" = none) (m_len : mg "len" = none) (g_PAIR : GlobD K mg "PAIR" k_PAIR) (c_is_integer : Callee P w K mg base 1 "is_integer" ["value"] C_is_integer)   : FnG P w K mg base CX0 2 f fd ["value"] (spOf K 1 C_is_pair) :=
  def_ok (k := 1) F sc_is_pair (fun cdv A outer s H E hr hgu => (show MSs _ _ w_is_pair from (mss_cons (ms_if (mw_pt (mw_or (mt_not (mt_val (me_callB cd_isi (by rfl) m_isinstance (by decide +kernel) (ma_cons (me_var (pv 0)) (ma_cons (me_bltn (by rfl) m_tuple (by decide +kernel)) ma_nil))))) (mw_or1 (mt_cmp (od_ne hr.units) (me_callB cd_len (by rfl) m_len (by decide +kernel) (ma_cons (me_var (pv 0)) ma_nil)) (g_PAIR.me (by rfl)) (nomark _))))) (mss_one (ms_ret me_bl)) mss_nil)
  (mss_one (ms_ret (me_and (c_is_integer.call (hr.mono (by decide)) hgu (by rfl) (ma_cons (me_ix (me_var (pv 0)) me_int (fun _ _ => rfl)) ma_nil)) (me_and (c_is_integer.call (hr.mono (by decide)) hgu (by rfl) (ma_cons (me_ix (me_var (pv 0)) me_int (fun _ _ => rfl)) ma_nil)) (me_one (me_cmp od_le (me_ix (me_var (pv 0)) me_int (fun _ _ => rfl)) (me_ix (me_var (pv 0)) me_int (fun _ _ => rfl)) (nomark _)))))))))) ok_is_pair
theorem fn_is_ranges {f : Addr} {fd : FuncData} (F : Fun K "is_ranges" "is_ranges" s_is_ranges f fd) (m_tuple : mg "tuple" = none) (m_isinstance : mg "isinstance" = none) (m_all : mg "all" = none) (m_zip : mg "zip" = none)  (c_is_pair : Callee P w K mg base 2 "is_pair" ["value"] C_is_pair)   : FnG P w K mg base CX0 3 f fd ["value"] (spOf K 1 C_is_ranges) :=
  def_ok (k := 2) F sc_is_ranges (fun cdv A outer s H E hr hgu => (show MSs _ _ w_is_ranges from (mss_cons (ms_if (mw_pt (mw_or (mt_not (mt_val (me_callB cd_isi (by rfl) m_isinstance (by decide +kernel) (ma_cons (me_var (pv 0)) (ma_cons (me_bltn (by rfl) m_tuple (by decide +kernel)) ma_nil))))) (mw_or1 (mt_not (mt_val (me_callB (cd_all rfl) (by rfl) m_all (by decide +kernel) (ma_cons (me_lc (own := [("pair", 1)]) (js := [1]) rfl sc_is_ranges.nd (mi_seq (me_var (pv 0))) (blkOk_by (own := [("pair", 1)]) (N := N_is_ranges) (sc := defScope s_is_ranges) (by decide +kernel)) (by decide) (fun _ _ _ _ _ => (mg_name (i := 1) sc_is_ranges.nd rfl (by first | exact Or.inl rfl | exact Or.inr rfl))) (fun _ _ _ _ _ => mts_nil) (fun _ _ _ _ _ => (c_is_pair.call (hr.mono (by decide)) hgu (by rfl) (ma_cons (me_var (pv 1)) ma_nil)))) ma_nil))))))) (mss_one (ms_ret me_bl)) mss_nil)
  (mss_one (ms_ret (me_callB (cd_all rfl) (by rfl) m_all (by decide +kernel) (ma_cons (me_lc (own := [("one", 2), ("other", 3)]) (js := [2, 3]) rfl sc_is_ranges.nd (mi_zip (by rfl) m_zip (ma_cons (me_var (pv 0)) (ma_cons (me_slice (me_var (pv 0)) (mo_some me_int) mo_none) ma_nil))) (blkOk_by (own := [("one", 2), ("other", 3)]) (N := N_is_ranges) (sc := defScope s_is_ranges) (by decide +kernel)) (by decide) (fun _ _ _ _ _ => (mg_tup rfl (mgs_cons (i := 2) sc_is_ranges.nd rfl (by first | exact Or.inl rfl | exact Or.inr rfl) (mgs_cons (i := 3) sc_is_ranges.nd rfl (by first | exact Or.inl rfl | exact Or.inr rfl) mgs_nil)))) (fun _ _ _ _ _ => mts_nil) (fun _ _ _ _ _ => (me_cmp od_lt (me_op od_add (me_ix (me_var (pv 2)) me_int (fun _ _ => rfl)) me_int) (me_ix (me_var (pv 3)) me_int (fun _ _ => rfl)) (nomark _)))) ma_nil))))))) ok_is_ranges
theorem fn_united {f : Addr} {fd : FuncData} (F : Fun K "united" "united" s_united f fd) (m_sorted : mg "sorted" = none) (m_max : mg "max" = none) (m_tuple : mg "tuple" = none)     : FnG P w K mg base CX0 1 f fd ["pairs"] (spOf K 1 C_united) :=
  def_ok (k := 0) F sc_united (fun cdv A outer s H E hr hgu => (show MSs _ _ w_united from (mss_cons (ms_set (i := 1) sc_united.nd rfl (by first | exact Or.inl rfl | exact Or.inr rfl) (me_lst ma_nil))
  (mss_cons (ms_asg (js := [2, 3]) (me_tup (ma_cons me_non (ma_cons me_non ma_nil))) (mg_tup rfl (mgs_cons (i := 2) sc_united.nd rfl (by first | exact Or.inl rfl | exact Or.inr rfl) (mgs_cons (i := 3) sc_united.nd rfl (by first | exact Or.inl rfl | exact Or.inr rfl) mgs_nil))))
  (mss_cons (ms_for (js := [4, 5]) PassesOwn.never rfl (mi_seq (me_callB cd_sortP (by rfl) m_sorted (by decide +kernel) (ma_cons (me_var (pv 0)) ma_nil))) (mg_tup rfl (mgs_cons (i := 4) sc_united.nd rfl (by first | exact Or.inl rfl | exact Or.inr rfl) (mgs_cons (i := 5) sc_united.nd rfl (by first | exact Or.inl rfl | exact Or.inr rfl) mgs_nil))) (show MSs _ _ wb_united_2 from (mss_one (ms_if (mw_pt (mw_and (mt_cmp od_notN (me_var (pv 2)) me_non (nomark _)) (mw_and1 (mt_cmp od_le (me_var (pv 4)) (me_op od_add (me_var (pv 3)) me_int) (nomark _))))) (mss_one (ms_set (i := 3) sc_united.nd rfl (by first | exact Or.inl rfl | exact Or.inr rfl) (me_callB (cd_max rfl) (by rfl) m_max (by decide +kernel) (ma_cons (me_var (pv 3)) (ma_cons (me_var (pv 5)) ma_nil))))) (mss_cons (ms_if (mt_cmp od_notN (me_var (pv 2)) me_non (nomark _)) (mss_one (ms_expr (me_mut PySem.F.plainAttrs_list PySem.F.slot_list_append PySem.F.type_list_append mt_append mut_append (pv 1) (ma_cons (me_tup (ma_cons (me_var (pv 2)) (ma_cons (me_var (pv 3)) ma_nil))) ma_nil)))) mss_nil)
  (show MSs _ _ wr_united_1 from (mss_one (ms_par (i := 2) (j := 3) rfl sc_united.nd rfl rfl (by decide) rfl rfl (me_var (pv 4)) (me_var (pv 5))))))))))
  (show MSs _ _ wr_united_4 from (mss_cons (ms_if (mt_cmp od_notN (me_var (pv 2)) me_non (nomark _)) (mss_one (ms_expr (me_mut PySem.F.plainAttrs_list PySem.F.slot_list_append PySem.F.type_list_append mt_append mut_append (pv 1) (ma_cons (me_tup (ma_cons (me_var (pv 2)) (ma_cons (me_var (pv 3)) ma_nil))) ma_nil)))) mss_nil)
  (show MSs _ _ wr_united_3 from (mss_one (ms_ret (me_callT cd_tuple (by rfl) m_tuple (by decide +kernel) (ma_cons (me_var (pv 1)) ma_nil)))))))))))) ok_united
theorem fn_both {f : Addr} {fd : FuncData} (F : Fun K "both" "both" s_both f fd) (m_len : mg "len" = none) (m_max : mg "max" = none) (m_min : mg "min" = none) (m_tuple : mg "tuple" = none)     : FnG P w K mg base CX0 1 f fd ["one", "other"] (spOf K 2 C_both) :=
  def_ok (k := 0) F sc_both (fun cdv A outer s H E hr hgu => (show MSs _ _ w_both from (mss_cons (ms_set (i := 2) sc_both.nd rfl (by first | exact Or.inl rfl | exact Or.inr rfl) (me_lst ma_nil))
  (mss_cons (ms_asg (js := [3, 4]) (me_tup (ma_cons me_int (ma_cons me_int ma_nil))) (mg_tup rfl (mgs_cons (i := 3) sc_both.nd rfl (by first | exact Or.inl rfl | exact Or.inr rfl) (mgs_cons (i := 4) sc_both.nd rfl (by first | exact Or.inl rfl | exact Or.inr rfl) mgs_nil))))
  (mss_cons (ms_while PassesOwn.never (mw_pt (mw_and (mt_cmp od_lt (me_var (pv 3)) (me_callB cd_len (by rfl) m_len (by decide +kernel) (ma_cons (me_var (pv 0)) ma_nil)) (nomark _)) (mw_and1 (mt_cmp od_lt (me_var (pv 4)) (me_callB cd_len (by rfl) m_len (by decide +kernel) (ma_cons (me_var (pv 1)) ma_nil)) (nomark _))))) (show MSs _ _ wb_both_2 from (mss_cons (ms_par (i := 5) (j := 6) rfl sc_both.nd rfl rfl (by decide) rfl rfl (me_callB (cd_max rfl) (by rfl) m_max (by decide +kernel) (ma_cons (me_ix (me_ix (me_var (pv 0)) (me_var (pv 3)) (fun _ _ => rfl)) me_int (fun _ _ => rfl)) (ma_cons (me_ix (me_ix (me_var (pv 1)) (me_var (pv 4)) (fun _ _ => rfl)) me_int (fun _ _ => rfl)) ma_nil))) (me_callB (cd_min rfl) (by rfl) m_min (by decide +kernel) (ma_cons (me_ix (me_ix (me_var (pv 0)) (me_var (pv 3)) (fun _ _ => rfl)) me_int (fun _ _ => rfl)) (ma_cons (me_ix (me_ix (me_var (pv 1)) (me_var (pv 4)) (fun _ _ => rfl)) me_int (fun _ _ => rfl)) ma_nil))))
  (mss_cons (ms_if (mt_cmp od_le (me_var (pv 5)) (me_var (pv 6)) (nomark _)) (mss_one (ms_expr (me_mut PySem.F.plainAttrs_list PySem.F.slot_list_append PySem.F.type_list_append mt_append mut_append (pv 2) (ma_cons (me_tup (ma_cons (me_var (pv 5)) (ma_cons (me_var (pv 6)) ma_nil))) ma_nil)))) mss_nil)
  (show MSs _ _ wr_both_1 from (mss_one (ms_if (mt_cmp od_lt (me_ix (me_ix (me_var (pv 0)) (me_var (pv 3)) (fun _ _ => rfl)) me_int (fun _ _ => rfl)) (me_ix (me_ix (me_var (pv 1)) (me_var (pv 4)) (fun _ _ => rfl)) me_int (fun _ _ => rfl)) (nomark _)) (mss_one (ms_set (i := 3) sc_both.nd rfl (by first | exact Or.inl rfl | exact Or.inr rfl) (me_op od_add (me_var (pv 3)) me_int))) (mss_one (ms_set (i := 4) sc_both.nd rfl (by first | exact Or.inl rfl | exact Or.inr rfl) (me_op od_add (me_var (pv 4)) me_int))))))))))
  (show MSs _ _ wr_both_3 from (mss_one (ms_ret (me_callT cd_tuple (by rfl) m_tuple (by decide +kernel) (ma_cons (me_var (pv 2)) ma_nil)))))))))) ok_both
theorem fn_either {f : Addr} {fd : FuncData} (F : Fun K "either" "either" s_either f fd)   (c_united : Callee P w K mg base 1 "united" ["pairs"] C_united)   : FnG P w K mg base CX0 2 f fd ["one", "other"] (spOf K 2 C_either) :=
  def_ok (k := 1) F sc_either (fun cdv A outer s H E hr hgu => (show MSs _ _ w_either from (mss_one (ms_ret (c_united.call (hr.mono (by decide)) hgu (by rfl) (ma_cons (me_op od_add (me_var (pv 0)) (me_var (pv 1))) ma_nil)))))) ok_either
theorem fn_gaps {f : Addr} {fd : FuncData} (F : Fun K "gaps" "gaps" s_gaps f fd) (m_max : mg "max" = none)  (c_both : Callee P w K mg base 1 "both" ["one", "other"] C_both) (c_united : Callee P w K mg base 1 "united" ["pairs"] C_united)   : FnG P w K mg base CX0 2 f fd ["ranges", "low", "high"] (spOf K 3 C_gaps) :=
  def_ok (k := 1) F sc_gaps (fun cdv A outer s H E hr hgu => (show MSs _ _ w_gaps from (mss_cons (ms_set (i := 3) sc_gaps.nd rfl (by first | exact Or.inl rfl | exact Or.inr rfl) (me_lst ma_nil))
  (mss_cons (ms_set (i := 4) sc_gaps.nd rfl (by first | exact Or.inl rfl | exact Or.inr rfl) (me_var (pv 1)))
  (mss_cons (ms_for (js := [5, 6]) PassesOwn.never rfl (mi_seq (me_var (pv 0))) (mg_tup rfl (mgs_cons (i := 5) sc_gaps.nd rfl (by first | exact Or.inl rfl | exact Or.inr rfl) (mgs_cons (i := 6) sc_gaps.nd rfl (by first | exact Or.inl rfl | exact Or.inr rfl) mgs_nil))) (show MSs _ _ wb_gaps_2 from (mss_cons (ms_if (mt_cmp od_lt (me_var (pv 4)) (me_var (pv 5)) (nomark _)) (mss_one (ms_expr (me_mut PySem.F.plainAttrs_list PySem.F.slot_list_append PySem.F.type_list_append mt_append mut_append (pv 3) (ma_cons (me_tup (ma_cons (me_var (pv 4)) (ma_cons (me_op od_sub (me_var (pv 5)) me_int) ma_nil))) ma_nil)))) mss_nil)
  (show MSs _ _ wr_gaps_1 from (mss_one (ms_set (i := 4) sc_gaps.nd rfl (by first | exact Or.inl rfl | exact Or.inr rfl) (me_callB (cd_max rfl) (by rfl) m_max (by decide +kernel) (ma_cons (me_var (pv 4)) (ma_cons (me_op od_add (me_var (pv 6)) me_int) ma_nil)))))))))
  (show MSs _ _ wr_gaps_3 from (mss_cons (ms_expr (me_mut PySem.F.plainAttrs_list PySem.F.slot_list_append PySem.F.type_list_append mt_append mut_append (pv 3) (ma_cons (me_tup (ma_cons (me_var (pv 4)) (ma_cons (me_var (pv 2)) ma_nil))) ma_nil)))
  (mss_one (ms_ret (c_both.call (hr.mono (by decide)) hgu (by rfl) (ma_cons (c_united.call (hr.mono (by decide)) hgu (by rfl) (ma_cons (me_lc (own := [("pair", 7)]) (js := [7]) rfl sc_gaps.nd (mi_seq (me_var (pv 3))) (blkOk_by (own := [("pair", 7)]) (N := N_gaps) (sc := defScope s_gaps) (by decide +kernel)) (by decide) (fun _ _ _ _ _ => (mg_name (i := 7) sc_gaps.nd rfl (by first | exact Or.inl rfl | exact Or.inr rfl))) (fun _ _ _ _ _ => (mts_one (mt_cmp od_le (me_ix (me_var (pv 7)) me_int (fun _ _ => rfl)) (me_ix (me_var (pv 7)) me_int (fun _ _ => rfl)) (nomark _)))) (fun _ _ _ _ _ => (me_var (pv 7)))) ma_nil)) (ma_cons (me_tup (ma_cons (me_tup (ma_cons (me_var (pv 1)) (ma_cons (me_var (pv 2)) ma_nil))) ma_nil)) ma_nil)))))))))))) ok_gaps
theorem fn_without {f : Addr} {fd : FuncData} (F : Fun K "without" "without" s_without f fd)   (c_both : Callee P w K mg base 1 "both" ["one", "other"] C_both) (c_gaps : Callee P w K mg base 2 "gaps" ["ranges", "low", "high"] C_gaps)   : FnG P w K mg base CX0 3 f fd ["one", "other"] (spOf K 2 C_without) :=
  def_ok (k := 2) F sc_without (fun cdv A outer s H E hr hgu => (show MSs _ _ w_without from (mss_cons (ms_if (mt_cmp (od_eq hr.units) (me_var (pv 0)) (me_tup ma_nil) (nomark _)) (mss_one (ms_ret (me_tup ma_nil))) mss_nil)
  (mss_one (ms_ret (c_both.call (hr.mono (by decide)) hgu (by rfl) (ma_cons (me_var (pv 0)) (ma_cons (c_gaps.call (hr.mono (by decide)) hgu (by rfl) (ma_cons (me_var (pv 1)) (ma_cons (me_ix (me_ix (me_var (pv 0)) me_int (fun _ _ => rfl)) me_int (fun _ _ => rfl)) (ma_cons (me_ix (me_ix (me_var (pv 0)) (me_neg me_int) (fun _ _ => rfl)) me_int (fun _ _ => rfl)) ma_nil)))) ma_nil)))))))) ok_without
theorem fn_is_column {f : Addr} {fd : FuncData} (F : Fun K "is_column" "is_column" s_is_column f fd) (m_str : mg "str" = none) (m_isinstance : mg "isinstance" = none) (m_len : mg "len" = none) (m_all : mg "all" = none) (g_MOST_LETTERS : GlobD K mg "MOST_LETTERS" k_MOST_LETTERS) (g_WORDS : GlobD K mg "WORDS" k_WORDS) (g_SMALL : GlobD K mg "SMALL" k_SMALL)    : FnG P w K mg base CX0 1 f fd ["value"] (spOf K 1 C_is_column) :=
  def_ok (k := 0) F sc_is_column (fun cdv A outer s H E hr hgu => (show MSs _ _ w_is_column from (mss_cons (ms_if (mw_pt (mw_or (mt_not (mt_val (me_callB cd_isi (by rfl) m_isinstance (by decide +kernel) (ma_cons (me_var (pv 0)) (ma_cons (me_bltn (by rfl) m_str (by decide +kernel)) ma_nil))))) (mw_or (mt_not (mt_chain od_le od_le me_int (me_callB cd_len (by rfl) m_len (by decide +kernel) (ma_cons (me_var (pv 0)) ma_nil)) (g_MOST_LETTERS.me (by rfl)))) (mw_or1 (mt_cmp od_in (me_var (pv 0)) (g_WORDS.me (by rfl)) (by rfl)))))) (mss_one (ms_ret me_bl)) mss_nil)
  (mss_one (ms_ret (me_callB (cd_all rfl) (by rfl) m_all (by decide +kernel) (ma_cons (me_lc (own := [("letter", 1)]) (js := [1]) rfl sc_is_column.nd (mi_seq (me_var (pv 0))) (blkOk_by (own := [("letter", 1)]) (N := N_is_column) (sc := defScope s_is_column) (by decide +kernel)) (by decide) (fun _ _ _ _ _ => (mg_name (i := 1) sc_is_column.nd rfl (by first | exact Or.inl rfl | exact Or.inr rfl))) (fun _ _ _ _ _ => mts_nil) (fun _ _ _ _ _ => (me_cmp od_in (me_var (pv 1)) (g_SMALL.me (by rfl)) (by rfl)))) ma_nil))))))) ok_is_column
theorem fn_are_within {f : Addr} {fd : FuncData} (F : Fun K "are_within" "are_within" s_are_within f fd)  (g_LEAST : GlobD K mg "LEAST" k_LEAST_conditions) (g_GREATEST : GlobD K mg "GREATEST" k_GREATEST_conditions)    : FnG P w K mg base CX0 1 f fd ["ranges"] (spOf K 1 C_are_within) :=
  def_ok (k := 0) F sc_are_within (fun cdv A outer s H E hr hgu => (show MSs _ _ w_are_within from (mss_one (ms_ret (me_or (me_cmp (od_eqNil hr.units) (me_var (pv 0)) (me_tup ma_nil) (nomark _)) (me_one (me_and (me_cmp od_le (g_LEAST.me (by rfl)) (me_ix (me_ix (me_var (pv 0)) me_int (fun _ _ => rfl)) me_int (fun _ _ => rfl)) (nomark _)) (me_one (me_cmp od_le (me_ix (me_ix (me_var (pv 0)) (me_neg me_int) (fun _ _ => rfl)) me_int (fun _ _ => rfl)) (g_GREATEST.me (by rfl)) (nomark _)))))))))) ok_are_within
theorem fn_is_taken_set {f : Addr} {fd : FuncData} (F : Fun K "is_taken_set" "is_taken_set" s_is_taken_set f fd) (m_len : mg "len" = none) (g_MOST_PAIRS : GlobD K mg "MOST_PAIRS" k_MOST_PAIRS) (c_is_ranges : Callee P w K mg base 3 "is_ranges" ["value"] C_is_ranges) (c_are_within : Callee P w K mg base 1 "are_within" ["ranges"] C_are_within)   : FnG P w K mg base CX0 4 f fd ["value"] (spOf K 1 C_is_taken_set) :=
  def_ok (k := 3) F sc_is_taken_set (fun cdv A outer s H E hr hgu => (show MSs _ _ w_is_taken_set from (mss_one (ms_ret (me_and (c_is_ranges.call (hr.mono (by decide)) hgu (by rfl) (ma_cons (me_var (pv 0)) ma_nil)) (me_and (me_cmp od_le (me_callB cd_len (by rfl) m_len (by decide +kernel) (ma_cons (me_var (pv 0)) ma_nil)) (g_MOST_PAIRS.me (by rfl)) (nomark _)) (me_one (c_are_within.call (hr.mono (by decide)) hgu (by rfl) (ma_cons (me_var (pv 0)) ma_nil))))))))) ok_is_taken_set
theorem fn_columns_in {f : Addr} {fd : FuncData} (F : Fun K "columns_in" "columns_in" s_columns_in f fd)  (g_CONDITION : GlobD K mg "CONDITION" k_CONDITION)    : FnG P w K mg base CX0 1 f fd ["tree"] (spOf K 1 C_columns_in) :=
  def_ok (k := 0) F sc_columns_in (fun cdv A outer s H E hr hgu => (show MSs _ _ w_columns_in from (mss_cons (ms_if (mt_cmp (od_eq hr.units) (me_ix (me_var (pv 0)) me_int (fun _ _ => rfl)) (g_CONDITION.me (by rfl)) (nomark _)) (mss_one (ms_ret (me_lst (ma_cons (me_ix (me_var (pv 0)) me_int (fun _ _ => rfl)) ma_nil)))) mss_nil)
  (mss_one ms_never)))) ok_columns_in
theorem fn_widest_in {f : Addr} {fd : FuncData} (F : Fun K "widest_in" "widest_in" s_widest_in f fd) (m_len : mg "len" = none) (g_CONDITION : GlobD K mg "CONDITION" k_CONDITION)    : FnG P w K mg base CX0 1 f fd ["tree"] (spOf K 1 C_widest_in) :=
  def_ok (k := 0) F sc_widest_in (fun cdv A outer s H E hr hgu => (show MSs _ _ w_widest_in from (mss_cons (ms_if (mt_cmp (od_eq hr.units) (me_ix (me_var (pv 0)) me_int (fun _ _ => rfl)) (g_CONDITION.me (by rfl)) (nomark _)) (mss_one (ms_ret (me_callB cd_len (by rfl) m_len (by decide +kernel) (ma_cons (me_ix (me_var (pv 0)) me_int (fun _ _ => rfl)) ma_nil)))) mss_nil)
  (mss_one ms_never)))) ok_widest_in
theorem fn_settled {f : Addr} {fd : FuncData} (F : Fun K "settled" "settled" s_settled f fd)  (g_JOINED : GlobD K mg "JOINED" k_JOINED) (g_NEGATED : GlobD K mg "NEGATED" k_NEGATED)    : FnG P w K mg base CX0 1 f fd ["tree"] (spOf K 1 C_settled) :=
  def_ok (k := 0) F sc_settled (fun cdv A outer s H E hr hgu => (show MSs _ _ w_settled from (mss_cons (ms_if (mt_cmp (od_eq hr.units) (me_ix (me_var (pv 0)) me_int (fun _ _ => rfl)) (g_JOINED.me (by rfl)) (nomark _)) (mss_one (ms_ret me_never)) mss_nil)
  (mss_one (ms_ret (me_if (mt_cmp (od_eq hr.units) (me_ix (me_var (pv 0)) me_int (fun _ _ => rfl)) (g_NEGATED.me (by rfl)) (nomark _)) me_never (me_var (pv 0)))))))) ok_settled
theorem fn_pair_text {f : Addr} {fd : FuncData} (F : Fun K "pair_text" "pair_text" s_pair_text f fd) (m_str : mg "str" = none) (g_BETWEEN : GlobD K mg "BETWEEN" k_BETWEEN)    : FnG P w K mg base CX0 1 f fd ["low", "high"] (spOf K 2 C_pair_text) :=
  def_ok (k := 0) F sc_pair_text (fun cdv A outer s H E hr hgu => (show MSs _ _ w_pair_text from (mss_one (ms_ret (me_if (mt_cmp (od_eq hr.units) (me_var (pv 0)) (me_var (pv 1)) (nomark _)) (me_callT cd_str (by rfl) m_str (by decide +kernel) (ma_cons (me_var (pv 0)) ma_nil)) (me_op od_add (me_op od_add (me_callT cd_str (by rfl) m_str (by decide +kernel) (ma_cons (me_var (pv 0)) ma_nil)) (g_BETWEEN.me (by rfl))) (me_callT cd_str (by rfl) m_str (by decide +kernel) (ma_cons (me_var (pv 1)) ma_nil)))))))) ok_pair_text
theorem fn_condition_text {f : Addr} {fd : FuncData} (F : Fun K "condition_text" "condition_text" s_condition_text f fd)  (g_MISSING : GlobD K mg "MISSING" k_MISSING) (g_NOTHING : GlobD K mg "NOTHING" k_NOTHING_question_text) (c_pair_text : Callee P w K mg base 1 "pair_text" ["low", "high"] C_pair_text)   : FnG P w K mg base CX0 2 f fd ["tree"] (spOf K 1 C_condition_text) :=
  def_ok (k := 1) F sc_condition_text (fun cdv A outer s H E hr hgu => (show MSs _ _ w_condition_text from (mss_cons (ms_fz (is := [1]) (ms_setLc (i := 1) (own := [("low", 2), ("high", 3)]) (js := [2, 3]) rfl sc_condition_text.nd rfl rfl (sw_true rfl rfl rfl (by decide +kernel)) (mi_seq (me_ix (me_var (pv 0)) me_int (fun _ _ => rfl))) (blkOk_by (own := [("low", 2), ("high", 3)]) (N := N_condition_text) (sc := defScope s_condition_text) (by decide +kernel)) (by decide) (fun _ _ _ _ _ => (mg_tup rfl (mgs_cons (i := 2) sc_condition_text.nd rfl (by first | exact Or.inl rfl | exact Or.inr rfl) (mgs_cons (i := 3) sc_condition_text.nd rfl (by first | exact Or.inl rfl | exact Or.inr rfl) mgs_nil)))) (fun _ _ _ _ _ => mts_nil) (fun _ _ _ _ _ => (c_pair_text.call (hr.mono (by decide)) hgu (by rfl) (ma_cons (me_var (pv 2)) (ma_cons (me_var (pv 3)) ma_nil))))))
  (show MSs _ _ wr_condition_text_2 from (mss_cons (ms_fz (is := [4]) (ms_set (i := 4) sc_condition_text.nd rfl (by first | exact Or.inl rfl | exact Or.inr rfl) (me_if (mt_val (me_ix (me_var (pv 0)) me_int (fun _ _ => rfl))) (me_lst (ma_cons (g_MISSING.me (by rfl)) ma_nil)) (me_lst ma_nil))))
  (show MSs _ _ wr_condition_text_1 from (mss_one (ms_ret (me_op od_add (me_op od_add (me_ix (me_var (pv 0)) me_int (fun _ _ => rfl)) me_str) (me_if (mt_cmp (od_eq hr.units) (me_op od_add (me_var (pv 1)) (me_var (pv 4))) (me_lst ma_nil) (nomark _)) (g_NOTHING.me (by rfl)) (me_join me_str (me_op od_add (me_var (pv 1)) (me_var (pv 4)))))))))))))) ok_condition_text
theorem fn_tree_text {f : Addr} {fd : FuncData} (F : Fun K "tree_text" "tree_text" s_tree_text f fd)  (g_CONDITION : GlobD K mg "CONDITION" k_CONDITION) (c_condition_text : Callee P w K mg base 2 "condition_text" ["tree"] C_condition_text)   : FnG P w K mg base CX0 3 f fd ["tree"] (spOf K 1 C_tree_text) :=
  def_ok (k := 2) F sc_tree_text (fun cdv A outer s H E hr hgu => (show MSs _ _ w_tree_text from (mss_cons (ms_if (mt_cmp (od_eq hr.units) (me_ix (me_var (pv 0)) me_int (fun _ _ => rfl)) (g_CONDITION.me (by rfl)) (nomark _)) (mss_one (ms_ret (c_condition_text.call (hr.mono (by decide)) hgu (by rfl) (ma_cons (me_var (pv 0)) ma_nil)))) mss_nil)
  (mss_cons ms_never
  (mss_cons (ms_fg (is := [2, 3]) (ms_fz (is := [1]) ms_never))
  (show MSs _ _ wr_tree_text_1 from (mss_one ms_never))))))) ok_tree_text
theorem fn_Question___init__ {f : Addr} {fd : FuncData} (F : Fun K "__init__" "Question.__init__" s_Question___init__ f fd) (m_sorted : mg "sorted" = none) (m_zip : mg "zip" = none) (m_len : mg "len" = none) (g_MOST_COLUMNS : GlobD K mg "MOST_COLUMNS" k_MOST_COLUMNS8) (g_MOST_PAIRS : GlobD K mg "MOST_PAIRS" k_MOST_PAIRS) (c_settled : Callee P w K mg base 1 "settled" ["tree"] C_settled) (c_columns_in : Callee P w K mg base 1 "columns_in" ["tree"] C_columns_in) (c_widest_in : Callee P w K mg base 1 "widest_in" ["tree"] C_widest_in) (c_tree_text : Callee P w K mg base 3 "tree_text" ["tree"] C_tree_text)  (hF_Question_tree : ObjF K "Question" "tree") (hF_Question_column_list : ObjF K "Question" "column_list") (hF_Question_string : ObjF K "Question" "string") : FnG P w K mg base CX0 4 f fd ["self", "tree"] (spOf K 2 C_Question___init__) :=
  def_ok (k := 3) F sc_Question___init__ (fun cdv A outer s H E hr hgu => (show MSs _ _ w_Question___init__ from (mss_cons (ms_setF (i := 0) hF_Question_tree (c_settled.call (hr.mono (by decide)) hgu (by rfl) (ma_cons (me_var (pv 1)) ma_nil)) (pv 0))
  (show MSs _ _ wr_Question___init___6 from (mss_cons (ms_setF (i := 0) hF_Question_column_list (me_callB cd_sortS (by rfl) m_sorted (by decide +kernel) (ma_cons (c_columns_in.call (hr.mono (by decide)) hgu (by rfl) (ma_cons (me_fld hF_Question_tree (me_var (pv 0))) ma_nil)) ma_nil)) (pv 0))
  (show MSs _ _ wr_Question___init___5 from (mss_cons (ms_fz (is := [2]) (ms_setLc (i := 2) (own := [("one", 3), ("other", 4)]) (js := [3, 4]) rfl sc_Question___init__.nd rfl rfl (sw_true rfl rfl rfl (by decide +kernel)) (mi_zip (by rfl) m_zip (ma_cons (me_fld hF_Question_column_list (me_var (pv 0))) (ma_cons (me_slice (me_fld hF_Question_column_list (me_var (pv 0))) (mo_some me_int) mo_none) ma_nil))) (blkOk_by (own := [("one", 3), ("other", 4)]) (N := N_Question___init__) (sc := defScope s_Question___init__) (by decide +kernel)) (by decide) (fun _ _ _ _ _ => (mg_tup rfl (mgs_cons (i := 3) sc_Question___init__.nd rfl (by first | exact Or.inl rfl | exact Or.inr rfl) (mgs_cons (i := 4) sc_Question___init__.nd rfl (by first | exact Or.inl rfl | exact Or.inr rfl) mgs_nil)))) (fun _ _ _ _ _ => (mts_one (mt_cmp (od_eq hr.units) (me_var (pv 3)) (me_var (pv 4)) (nomark _)))) (fun _ _ _ _ _ => (me_var (pv 3)))))
  (show MSs _ _ wr_Question___init___4 from (mss_cons (ms_fg (is := [2]) (ms_if (mt_cmp (od_ne hr.units) (me_var (pv 2)) (me_lst ma_nil) (nomark _)) (mss_one ms_never) mss_nil))
  (show MSs _ _ wr_Question___init___3 from (mss_cons (ms_if (mt_cmp od_gt (me_callB cd_len (by rfl) m_len (by decide +kernel) (ma_cons (me_fld hF_Question_column_list (me_var (pv 0))) ma_nil)) (g_MOST_COLUMNS.me (by rfl)) (nomark _)) (mss_one ms_never) mss_nil)
  (show MSs _ _ wr_Question___init___2 from (mss_cons (ms_if (mt_cmp od_gt (c_widest_in.call (hr.mono (by decide)) hgu (by rfl) (ma_cons (me_fld hF_Question_tree (me_var (pv 0))) ma_nil)) (g_MOST_PAIRS.me (by rfl)) (nomark _)) (mss_one ms_never) mss_nil)
  (show MSs _ _ wr_Question___init___1 from (mss_one (ms_setF (i := 0) hF_Question_string (c_tree_text.call (hr.mono (by decide)) hgu (by rfl) (ma_cons (me_fld hF_Question_tree (me_var (pv 0))) ma_nil)) (pv 0))))))))))))))))) ok_Question___init__
theorem fn_Question_columns {f : Addr} {fd : FuncData} (F : Fun K "columns" "Question.columns" s_Question_columns f fd) (m_tuple : mg "tuple" = none)    (hF_Question_column_list : ObjF K "Question" "column_list") : FnG P w K mg base CX0 1 f fd ["self"] (spOf K 1 C_Question_columns) :=
  def_ok (k := 0) F sc_Question_columns (fun cdv A outer s H E hr hgu => (show MSs _ _ w_Question_columns from (mss_one (ms_ret (me_callT cd_tuple (by rfl) m_tuple (by decide +kernel) (ma_cons (me_fld hF_Question_column_list (me_var (pv 0))) ma_nil)))))) ok_Question_columns
theorem fx_where {f : Addr} {fd : FuncData} (F : Fun K "where" "where" s_where f fd) (m_bool : mg "bool" = none) (m_isinstance : mg "isinstance" = none) (g_CONDITION : GlobD K mg "CONDITION" k_CONDITION) (c_is_column : Callee P w K mg base 1 "is_column" ["value"] C_is_column) (c_is_taken_set : Callee P w K mg base 4 "is_taken_set" ["value"] C_is_taken_set)  (ra_BadColumn : Raiser P K mg "BadColumn" "value") (ra_BadRanges : Raiser P K mg "BadRanges" "value") (ra_BadFlag : Raiser P K mg "BadFlag" "value") (mk_Question : Maker P w K mg base 4 "Question" ["self", "tree"] C_Question___init__) : FnG P w K mg base (L2.CX P w) 6 f fd ["column", "ranges", "missing"] (spX K 3 X_where) :=
  def_okX (k := 5) F sc_where (fun cdv A outer s H E hr hgu tk po => (show MXs _ _ _ wx_where from (mxs_cons (mx_if (mt_not (mt_val (c_is_column.call (hr.mono (by decide)) hgu (by rfl) (ma_cons (me_var (pv 0)) ma_nil)))) (mxs_one (mx_raise ra_BadColumn rfl tk (hr.mono (by decide)) rfl (me_var (pv 0)))) (mxs_of mss_nil))
  (mxs_cons (mx_if (mt_not (mt_val (c_is_taken_set.call (hr.mono (by decide)) hgu (by rfl) (ma_cons (me_var (pv 1)) ma_nil)))) (mxs_one (mx_raise ra_BadRanges rfl tk (hr.mono (by decide)) rfl (me_var (pv 1)))) (mxs_of mss_nil))
  (mxs_cons (mx_if (mt_not (mt_val (me_callB cd_isi (by rfl) m_isinstance (by decide +kernel) (ma_cons (me_var (pv 2)) (ma_cons (me_bltn (by rfl) m_bool (by decide +kernel)) ma_nil))))) (mxs_one (mx_raise ra_BadFlag rfl tk (hr.mono (by decide)) rfl (me_var (pv 2)))) (mxs_of mss_nil))
  (mxs_of (mss_one (ms_ret (mk_Question.make (hr.mono (by decide)) hgu (by rfl) (ma_cons (me_tup (ma_cons (g_CONDITION.me (by rfl)) (ma_cons (me_var (pv 0)) (ma_cons (me_var (pv 1)) (ma_cons (me_var (pv 2)) ma_nil))))) ma_nil)))))))))) okx_where
theorem fn__law_pot {f : Addr} {fd : FuncData} (F : Fun K "_law_pot" "_law_pot" s__law_pot f fd) (m_len : mg "len" = none) (m_abs : mg "abs" = none) (m_int : mg "int" = none)     : FnG P w K mg base CX0 1 f fd ["_law_script", "_law_k"] (spOf K 2 C__law_pot) :=
  def_ok (k := 0) F sc__law_pot (fun cdv A outer s H E hr hgu => (show MSs _ _ w__law_pot from (mss_cons (ms_set (i := 2) sc__law_pot.nd rfl (by first | exact Or.inl rfl | exact Or.inr rfl) (me_if (mt_cmp od_lt (me_var (pv 1)) (me_callB cd_len (by rfl) m_len (by decide +kernel) (ma_cons (me_var (pv 0)) ma_nil)) (nomark _)) (me_ix (me_var (pv 0)) (me_var (pv 1)) (fun _ _ => rfl)) (me_op od_add (me_op od_mul me_int (me_var (pv 1))) me_int)))
  (show MSs _ _ wr__law_pot_2 from (mss_cons (ms_set (i := 3) sc__law_pot.nd rfl (by first | exact Or.inl rfl | exact Or.inr rfl) (me_op od_mul (me_op od_mod (me_callT cd_int (by rfl) m_int (by decide +kernel) (ma_cons (me_callB cd_abs (by rfl) m_abs (by decide +kernel) (ma_cons (me_var (pv 2)) ma_nil)) ma_nil)) (me_op od_pow (me_op od_pow me_int me_int) me_int)) (me_callT cd_int (by rfl) m_int (by decide +kernel) (ma_cons (me_cmp od_ge (me_callB cd_abs (by rfl) m_abs (by decide +kernel) (ma_cons (me_var (pv 2)) ma_nil)) (me_op od_pow me_int me_int) (nomark _)) ma_nil))))
  (show MSs _ _ wr__law_pot_1 from (mss_one (ms_ret (me_lst (ma_cons (me_var (pv 3)) (ma_cons (me_op od_mod (me_callT cd_int (by rfl) m_int (by decide +kernel) (ma_cons (me_op od_add (me_op od_add (me_op od_mul (me_op od_mod (me_callT cd_int (by rfl) m_int (by decide +kernel) (ma_cons (me_var (pv 2)) ma_nil)) me_int) me_int) (me_op od_mul (me_op od_mul me_int (me_var (pv 1))) (me_var (pv 1)))) me_int) ma_nil)) me_int) (ma_cons me_int ma_nil)))))))))))) ok__law_pot
theorem fn__law_draw {f : Addr} {fd : FuncData} (F : Fun K "_law_draw" "_law_draw" s__law_draw f fd) (m_int : mg "int" = none)     : FnG P w K mg base CX0 1 f fd ["_law_pot_here", "_law_many"] (spOf K 2 C__law_draw) :=
  def_ok (k := 0) F sc__law_draw (fun cdv A outer s H E hr hgu => (show MSs _ _ w__law_draw from (mss_cons (ms_if (mt_cmp od_gt (me_ix (me_var (pv 0)) me_int (fun _ _ => rfl)) me_int (nomark _)) (mss_cons (ms_set (i := 2) sc__law_draw.nd rfl (by first | exact Or.inl rfl | exact Or.inr rfl) (me_op od_mod (me_callT cd_int (by rfl) m_int (by decide +kernel) (ma_cons (me_ix (me_var (pv 0)) me_int (fun _ _ => rfl)) ma_nil)) (me_var (pv 1))))
  (show MSs _ _ wr__law_draw_2 from (mss_cons (ms_setIx (i := 0) (me_op od_fdiv (me_ix (me_var (pv 0)) me_int (fun _ _ => rfl)) (me_var (pv 1))) (pv 0) me_int)
  (show MSs _ _ wr__law_draw_1 from (mss_one (ms_ret (me_var (pv 2)))))))) mss_nil)
  (show MSs _ _ wr__law_draw_7 from (mss_cons (ms_setIx (i := 0) (me_op od_add (me_ix (me_var (pv 0)) me_int (fun _ _ => rfl)) me_int) (pv 0) me_int)
  (show MSs _ _ wr__law_draw_6 from (mss_cons (ms_set (i := 3) sc__law_draw.nd rfl (by first | exact Or.inl rfl | exact Or.inr rfl) (me_ix (me_lst (ma_cons me_int (ma_cons me_int (ma_cons me_int (ma_cons me_int (ma_cons me_int ma_nil)))))) (me_op od_mod (me_callT cd_int (by rfl) m_int (by decide +kernel) (ma_cons (me_ix (me_var (pv 0)) me_int (fun _ _ => rfl)) ma_nil)) me_int) (fun _ _ => rfl)))
  (show MSs _ _ wr__law_draw_5 from (mss_cons (ms_set (i := 4) sc__law_draw.nd rfl (by first | exact Or.inl rfl | exact Or.inr rfl) (me_op od_mod (me_callT cd_int (by rfl) m_int (by decide +kernel) (ma_cons (me_op od_pow (me_op od_add (me_op od_add (me_ix (me_var (pv 0)) me_int (fun _ _ => rfl)) (me_op od_mul (me_op od_mul me_int (me_ix (me_var (pv 0)) me_int (fun _ _ => rfl))) (me_ix (me_var (pv 0)) me_int (fun _ _ => rfl)))) me_int) me_int) ma_nil)) (me_var (pv 3))))
  (show MSs _ _ wr__law_draw_4 from (mss_cons (ms_set (i := 4) sc__law_draw.nd rfl (by first | exact Or.inl rfl | exact Or.inr rfl) (me_op od_mod (me_callT cd_int (by rfl) m_int (by decide +kernel) (ma_cons (me_op od_mul (me_var (pv 4)) (me_op od_add (me_op od_mod (me_callT cd_int (by rfl) m_int (by decide +kernel) (ma_cons (me_var (pv 4)) ma_nil)) me_int) (me_op od_mul me_int (me_ix (me_var (pv 0)) me_int (fun _ _ => rfl))))) ma_nil)) me_int))
  (show MSs _ _ wr__law_draw_3 from (mss_one (ms_ret (me_op od_mod (me_callT cd_int (by rfl) m_int (by decide +kernel) (ma_cons (me_op od_fdiv (me_var (pv 4)) me_int) ma_nil)) (me_var (pv 1))))))))))))))))) ok__law_draw
theorem fn__law_any {f : Addr} {fd : FuncData} (F : Fun K "_law_any" "_law_any" s__law_any f fd) (m_len : mg "len" = none)  (c__law_draw : Callee P w K mg base 1 "_law_draw" ["_law_pot_here", "_law_many"] C__law_draw)   : FnG P w K mg base CX0 2 f fd ["_law_pot_here", "_law_items"] (spOf K 2 C__law_any) :=
  def_ok (k := 1) F sc__law_any (fun cdv A outer s H E hr hgu => (show MSs _ _ w__law_any from (mss_one (ms_ret (me_ix (me_var (pv 1)) (c__law_draw.callP (hr.mono (by decide)) hgu (by rfl) (pv 0) (ma_cons (me_callB cd_len (by rfl) m_len (by decide +kernel) (ma_cons (me_var (pv 1)) ma_nil)) ma_nil)) (fun _ _ => rfl)))))) ok__law_any
theorem fn__law_odd {f : Addr} {fd : FuncData} (F : Fun K "_law_odd" "_law_odd" s__law_odd f fd) (m_range : mg "range" = none)  (c__law_any : Callee P w K mg base 2 "_law_any" ["_law_pot_here", "_law_items"] C__law_any)   : FnG P w K mg base CX0 3 f fd ["_law_pot_here"] (spOf K 1 C__law_odd) :=
  def_ok (k := 2) F sc__law_odd (fun cdv A outer s H E hr hgu => (show MSs _ _ w__law_odd from (mss_cons (ms_set (i := 1) sc__law_odd.nd rfl (by first | exact Or.inl rfl | exact Or.inr rfl) (me_k (.lst [.non, (.bl true), (.bl false), (.int 0), (.int 1), (.neg 1), (.pow 10 30), (.str ""), (.str "a"), (.str "and"), (.str "or"), (.str "A"), (.str "ab"), (.str "abcdefgh"), (.str "abcdefghi"), (.tup [])]) (me_lst (ma_cons me_non (ma_cons me_bl (ma_cons me_bl (ma_cons me_int (ma_cons me_int (ma_cons (me_neg me_int) (ma_cons (me_op od_pow me_int me_int) (ma_cons me_str (ma_cons me_str (ma_cons me_str (ma_cons me_str (ma_cons me_str (ma_cons me_str (ma_cons me_str (ma_cons me_str (ma_cons (me_tup ma_nil) ma_nil)))))))))))))))))))
  (show MSs _ _ wr__law_odd_5 from (mss_cons (ms_set (i := 1) sc__law_odd.nd rfl (by first | exact Or.inl rfl | exact Or.inr rfl) (me_op od_add (me_var (pv 1)) (me_k (.lst [(.lst []), .dct0, (.tup [(.int 0), (.int 1)]), (.tup [(.tup [(.int 0), (.int 1)])]), (.lst [(.tup [(.int 0), (.int 1)])]), (.tup [(.tup [(.int 1), (.int 0)])]), (.tup [(.tup [(.int 0), (.bl true)])]), (.tup [(.tup [(.int 0), (.int 1)]), (.tup [(.int 2), (.int 3)])]), (.tup [(.tup [(.int 0), (.int 1), (.int 2)])])]) (me_lst (ma_cons (me_lst ma_nil) (ma_cons me_dct0 (ma_cons (me_tup (ma_cons me_int (ma_cons me_int ma_nil))) (ma_cons (me_tup (ma_cons (me_tup (ma_cons me_int (ma_cons me_int ma_nil))) ma_nil)) (ma_cons (me_lst (ma_cons (me_tup (ma_cons me_int (ma_cons me_int ma_nil))) ma_nil)) (ma_cons (me_tup (ma_cons (me_tup (ma_cons me_int (ma_cons me_int ma_nil))) ma_nil)) (ma_cons (me_tup (ma_cons (me_tup (ma_cons me_int (ma_cons me_bl ma_nil))) ma_nil)) (ma_cons (me_tup (ma_cons (me_tup (ma_cons me_int (ma_cons me_int ma_nil))) (ma_cons (me_tup (ma_cons me_int (ma_cons me_int ma_nil))) ma_nil))) (ma_cons (me_tup (ma_cons (me_tup (ma_cons me_int (ma_cons me_int (ma_cons me_int ma_nil)))) ma_nil)) ma_nil)))))))))))))
  (show MSs _ _ wr__law_odd_4 from (mss_cons (ms_set (i := 2) sc__law_odd.nd rfl (by first | exact Or.inl rfl | exact Or.inr rfl) (c__law_any.callP (hr.mono (by decide)) hgu (by rfl) (pv 0) (ma_cons (me_var (pv 1)) ma_nil)))
  (show MSs _ _ wr__law_odd_3 from (mss_cons (ms_for (js := [3]) PassesOwn.never rfl (mi_range1 (by rfl) m_range (ma_cons (c__law_any.callP (hr.mono (by decide)) hgu (by rfl) (pv 0) (ma_cons (me_k (.lst [(.int 0), (.int 0), (.int 0), (.int 1), (.int 2), (.int 9)]) (me_lst (ma_cons me_int (ma_cons me_int (ma_cons me_int (ma_cons me_int (ma_cons me_int (ma_cons me_int ma_nil)))))))) ma_nil)) ma_nil)) (mg_name (i := 3) sc__law_odd.nd rfl (by first | exact Or.inl rfl | exact Or.inr rfl)) (show MSs _ _ wb__law_odd_1 from (mss_one (ms_set (i := 2) sc__law_odd.nd rfl (by first | exact Or.inl rfl | exact Or.inr rfl) (c__law_any.callP (hr.mono (by decide)) hgu (by rfl) (pv 0) (ma_cons (me_lst (ma_cons (me_tup (ma_cons (me_var (pv 2)) ma_nil)) (ma_cons (me_lst (ma_cons (me_var (pv 2)) ma_nil)) (ma_cons (me_dct1 (me_var (pv 2))) (ma_cons (me_tup (ma_cons (me_var (pv 2)) (ma_cons (me_var (pv 2)) ma_nil))) (ma_cons (me_tup (ma_cons me_int (ma_cons (me_var (pv 2)) ma_nil))) ma_nil)))))) ma_nil))))))
  (show MSs _ _ wr__law_odd_2 from (mss_one (ms_ret (me_var (pv 2)))))))))))))) ok__law_odd
theorem fn__law_spans {f : Addr} {fd : FuncData} (F : Fun K "_law_spans" "_law_spans" s__law_spans f fd) (m_range : mg "range" = none) (m_tuple : mg "tuple" = none)  (c__law_draw : Callee P w K mg base 1 "_law_draw" ["_law_pot_here", "_law_many"] C__law_draw) (c__law_any : Callee P w K mg base 2 "_law_any" ["_law_pot_here", "_law_items"] C__law_any)   : FnG P w K mg base CX0 3 f fd ["_law_pot_here", "_law_most", "_law_low", "_law_high"] (spOf K 4 C__law_spans) :=
  def_ok (k := 2) F sc__law_spans (fun cdv A outer s H E hr hgu => (show MSs _ _ w__law_spans from (mss_cons (ms_set (i := 4) sc__law_spans.nd rfl (by first | exact Or.inl rfl | exact Or.inr rfl) (me_op od_fdiv (me_op od_sub (me_var (pv 3)) (me_var (pv 2))) me_int))
  (show MSs _ _ wr__law_spans_6 from (mss_cons (ms_par (i := 5) (j := 6) rfl sc__law_spans.nd rfl rfl (by decide) rfl rfl (me_lst ma_nil) (me_op od_add (me_var (pv 2)) (c__law_draw.callP (hr.mono (by decide)) hgu (by rfl) (pv 0) (ma_cons (me_op od_add me_int (me_op od_fdiv (me_op od_sub (me_var (pv 3)) (me_var (pv 2))) me_int)) ma_nil))))
  (show MSs _ _ wr__law_spans_5 from (mss_cons (ms_for (js := [7]) PassesOwn.never rfl (mi_range1 (by rfl) m_range (ma_cons (c__law_draw.callP (hr.mono (by decide)) hgu (by rfl) (pv 0) (ma_cons (me_op od_add (me_var (pv 1)) me_int) ma_nil)) ma_nil)) (mg_name (i := 7) sc__law_spans.nd rfl (by first | exact Or.inl rfl | exact Or.inr rfl)) (show MSs _ _ wb__law_spans_3 from (mss_cons (ms_set (i := 8) sc__law_spans.nd rfl (by first | exact Or.inl rfl | exact Or.inr rfl) (me_op od_add (me_var (pv 6)) (c__law_any.callP (hr.mono (by decide)) hgu (by rfl) (pv 0) (ma_cons (me_lst (ma_cons me_int (ma_cons me_int (ma_cons me_int (ma_cons me_int (ma_cons me_int (ma_cons (me_var (pv 4)) ma_nil))))))) ma_nil))))
  (show MSs _ _ wr__law_spans_2 from (mss_one (ms_if (mt_cmp od_le (me_var (pv 8)) (me_var (pv 3)) (nomark _)) (mss_cons (ms_expr (me_mut PySem.F.plainAttrs_list PySem.F.slot_list_append PySem.F.type_list_append mt_append mut_append (pv 5) (ma_cons (me_tup (ma_cons (me_var (pv 6)) (ma_cons (me_var (pv 8)) ma_nil))) ma_nil)))
  (show MSs _ _ wr__law_spans_1 from (mss_one (ms_set (i := 6) sc__law_spans.nd rfl (by first | exact Or.inl rfl | exact Or.inr rfl) (me_op od_add (me_op od_add (me_var (pv 8)) me_int) (c__law_any.callP (hr.mono (by decide)) hgu (by rfl) (pv 0) (ma_cons (me_lst (ma_cons me_int (ma_cons me_int (ma_cons me_int (ma_cons me_int (ma_cons (me_var (pv 4)) ma_nil)))))) ma_nil))))))) mss_nil))))))
  (show MSs _ _ wr__law_spans_4 from (mss_one (ms_ret (me_callT cd_tuple (by rfl) m_tuple (by decide +kernel) (ma_cons (me_var (pv 5)) ma_nil)))))))))))) ok__law_spans
theorem fn__law_is_integer {f : Addr} {fd : FuncData} (F : Fun K "_law_is_integer" "_law_is_integer" s__law_is_integer f fd) (m_int : mg "int" = none) (m_isinstance : mg "isinstance" = none) (m_bool : mg "bool" = none)     : FnG P w K mg base CX0 1 f fd ["_law_thing"] (spOf K 1 C__law_is_integer) :=
  def_ok (k := 0) F sc__law_is_integer (fun cdv A outer s H E hr hgu => (show MSs _ _ w__law_is_integer from (mss_one (ms_ret (me_and (me_callB cd_isi (by rfl) m_isinstance (by decide +kernel) (ma_cons (me_var (pv 0)) (ma_cons (me_bltn (by rfl) m_int (by decide +kernel)) ma_nil))) (me_one (me_not (me_callB cd_isi (by rfl) m_isinstance (by decide +kernel) (ma_cons (me_var (pv 0)) (ma_cons (me_bltn (by rfl) m_bool (by decide +kernel)) ma_nil)))))))))) ok__law_is_integer
theorem fn__law_is_set {f : Addr} {fd : FuncData} (F : Fun K "_law_is_set" "_law_is_set" s__law_is_set f fd) (m_tuple : mg "tuple" = none) (m_isinstance : mg "isinstance" = none) (m_len : mg "len" = none) (m_all : mg "all" = none) (m_range : mg "range" = none)  (c__law_is_integer : Callee P w K mg base 1 "_law_is_integer" ["_law_thing"] C__law_is_integer)   : FnG P w K mg base CX0 2 f fd ["_law_thing"] (spOf K 1 C__law_is_set) :=
  def_ok (k := 1) F sc__law_is_set (fun cdv A outer s H E hr hgu => (show MSs _ _ w__law_is_set from (mss_cons (ms_if (mt_not (mt_val (me_callB cd_isi (by rfl) m_isinstance (by decide +kernel) (ma_cons (me_var (pv 0)) (ma_cons (me_bltn (by rfl) m_tuple (by decide +kernel)) ma_nil))))) (mss_one (ms_ret me_bl)) mss_nil)
  (show MSs _ _ wr__law_is_set_4 from (mss_cons (ms_for (js := [1]) PassesOwn.never rfl (mi_seq (me_var (pv 0))) (mg_name (i := 1) sc__law_is_set.nd rfl (by first | exact Or.inl rfl | exact Or.inr rfl)) (show MSs _ _ wb__law_is_set_1 from (mss_one (ms_if (mw_pt (mw_or (mt_not (mt_val (me_callB cd_isi (by rfl) m_isinstance (by decide +kernel) (ma_cons (me_var (pv 1)) (ma_cons (me_bltn (by rfl) m_tuple (by decide +kernel)) ma_nil))))) (mw_or (mt_cmp (od_ne hr.units) (me_callB cd_len (by rfl) m_len (by decide +kernel) (ma_cons (me_var (pv 1)) ma_nil)) me_int (nomark _)) (mw_or1 (mt_not (mt_val (me_callB (cd_all rfl) (by rfl) m_all (by decide +kernel) (ma_cons (me_lc (own := [("_law_one", 2)]) (js := [2]) rfl sc__law_is_set.nd (mi_seq (me_var (pv 1))) (blkOk_by (own := [("_law_one", 2)]) (N := N__law_is_set) (sc := defScope s__law_is_set) (by decide +kernel)) (by decide) (fun _ _ _ _ _ => (mg_name (i := 2) sc__law_is_set.nd rfl (by first | exact Or.inl rfl | exact Or.inr rfl))) (fun _ _ _ _ _ => mts_nil) (fun _ _ _ _ _ => (c__law_is_integer.call (hr.mono (by decide)) hgu (by rfl) (ma_cons (me_var (pv 2)) ma_nil)))) ma_nil)))))))) (mss_one (ms_ret me_bl)) mss_nil))))
  (show MSs _ _ wr__law_is_set_3 from (mss_cons (ms_if (mt_not (mt_val (me_callB (cd_all rfl) (by rfl) m_all (by decide +kernel) (ma_cons (me_lc (own := [("_law_low", 3), ("_law_high", 4)]) (js := [3, 4]) rfl sc__law_is_set.nd (mi_seq (me_var (pv 0))) (blkOk_by (own := [("_law_low", 3), ("_law_high", 4)]) (N := N__law_is_set) (sc := defScope s__law_is_set) (by decide +kernel)) (by decide) (fun _ _ _ _ _ => (mg_tup rfl (mgs_cons (i := 3) sc__law_is_set.nd rfl (by first | exact Or.inl rfl | exact Or.inr rfl) (mgs_cons (i := 4) sc__law_is_set.nd rfl (by first | exact Or.inl rfl | exact Or.inr rfl) mgs_nil)))) (fun _ _ _ _ _ => mts_nil) (fun _ _ _ _ _ => (me_cmp od_le (me_var (pv 3)) (me_var (pv 4)) (nomark _)))) ma_nil)))) (mss_one (ms_ret me_bl)) mss_nil)
  (show MSs _ _ wr__law_is_set_2 from (mss_one (ms_ret (me_callB (cd_all rfl) (by rfl) m_all (by decide +kernel) (ma_cons (me_lc (own := [("_law_at", 5)]) (js := [5]) rfl sc__law_is_set.nd (mi_range1 (by rfl) m_range (ma_cons (me_op od_sub (me_callB cd_len (by rfl) m_len (by decide +kernel) (ma_cons (me_var (pv 0)) ma_nil)) me_int) ma_nil)) (blkOk_by (own := [("_law_at", 5)]) (N := N__law_is_set) (sc := defScope s__law_is_set) (by decide +kernel)) (by decide) (fun _ _ _ _ _ => (mg_name (i := 5) sc__law_is_set.nd rfl (by first | exact Or.inl rfl | exact Or.inr rfl))) (fun _ _ _ _ _ => mts_nil) (fun _ _ _ _ _ => (me_cmp od_le (me_op od_add (me_ix (me_ix (me_var (pv 0)) (me_var (pv 5)) (fun _ _ => rfl)) me_int (fun _ _ => rfl)) me_int) (me_ix (me_ix (me_var (pv 0)) (me_op od_add (me_var (pv 5)) me_int) (fun _ _ => rfl)) me_int (fun _ _ => rfl)) (nomark _)))) ma_nil)))))))))))) ok__law_is_set
theorem fn__law_is_name {f : Addr} {fd : FuncData} (F : Fun K "_law_is_name" "_law_is_name" s__law_is_name f fd) (m_str : mg "str" = none) (m_isinstance : mg "isinstance" = none) (m_len : mg "len" = none) (m_all : mg "all" = none)     : FnG P w K mg base CX0 1 f fd ["_law_thing"] (spOf K 1 C__law_is_name) :=
  def_ok (k := 0) F sc__law_is_name (fun cdv A outer s H E hr hgu => (show MSs _ _ w__law_is_name from (mss_cons (ms_if (mw_pt (mw_or (mt_not (mt_val (me_callB cd_isi (by rfl) m_isinstance (by decide +kernel) (ma_cons (me_var (pv 0)) (ma_cons (me_bltn (by rfl) m_str (by decide +kernel)) ma_nil))))) (mw_or (mt_not (mt_chain od_le od_le me_int (me_callB cd_len (by rfl) m_len (by decide +kernel) (ma_cons (me_var (pv 0)) ma_nil)) me_int)) (mw_or1 (mt_cmp od_in (me_var (pv 0)) (me_tup (ma_cons me_str (ma_cons me_str ma_nil))) (by rfl)))))) (mss_one (ms_ret me_bl)) mss_nil)
  (show MSs _ _ wr__law_is_name_1 from (mss_one (ms_ret (me_callB (cd_all rfl) (by rfl) m_all (by decide +kernel) (ma_cons (me_lc (own := [("_law_letter", 1)]) (js := [1]) rfl sc__law_is_name.nd (mi_seq (me_var (pv 0))) (blkOk_by (own := [("_law_letter", 1)]) (N := N__law_is_name) (sc := defScope s__law_is_name) (by decide +kernel)) (by decide) (fun _ _ _ _ _ => (mg_name (i := 1) sc__law_is_name.nd rfl (by first | exact Or.inl rfl | exact Or.inr rfl))) (fun _ _ _ _ _ => mts_nil) (fun _ _ _ _ _ => (me_cmp od_in (me_var (pv 1)) me_str (by rfl)))) ma_nil)))))))) ok__law_is_name
theorem fn__law_con_text {f : Addr} {fd : FuncData} (F : Fun K "_law_con_text" "_law_con_text" s__law_con_text f fd) (m_str : mg "str" = none) (m_int : mg "int" = none)     : FnG P w K mg base CX0 1 f fd ["_law_tree"] (spOf K 1 C__law_con_text) :=
  def_ok (k := 0) F sc__law_con_text (fun cdv A outer s H E hr hgu => (show MSs _ _ w__law_con_text from (mss_cons (ms_fz (is := [1]) (ms_setLc (i := 1) (own := [("_law_low", 2), ("_law_high", 3)]) (js := [2, 3]) rfl sc__law_con_text.nd rfl rfl (sw_true rfl rfl rfl (by decide +kernel)) (mi_seq (me_ix (me_var (pv 0)) me_int (fun _ _ => rfl))) (blkOk_by (own := [("_law_low", 2), ("_law_high", 3)]) (N := N__law_con_text) (sc := defScope s__law_con_text) (by decide +kernel)) (by decide) (fun _ _ _ _ _ => (mg_tup rfl (mgs_cons (i := 2) sc__law_con_text.nd rfl (by first | exact Or.inl rfl | exact Or.inr rfl) (mgs_cons (i := 3) sc__law_con_text.nd rfl (by first | exact Or.inl rfl | exact Or.inr rfl) mgs_nil)))) (fun _ _ _ _ _ => mts_nil) (fun _ _ _ _ _ => (me_if (mt_cmp (od_eq hr.units) (me_var (pv 2)) (me_var (pv 3)) (nomark _)) (me_callT cd_str (by rfl) m_str (by decide +kernel) (ma_cons (me_var (pv 2)) ma_nil)) (me_op od_add (me_op od_add (me_callT cd_str (by rfl) m_str (by decide +kernel) (ma_cons (me_var (pv 2)) ma_nil)) me_str) (me_callT cd_str (by rfl) m_str (by decide +kernel) (ma_cons (me_var (pv 3)) ma_nil)))))))
  (show MSs _ _ wr__law_con_text_2 from (mss_cons (ms_fz (is := [1]) (ms_set (i := 1) sc__law_con_text.nd rfl (by first | exact Or.inl rfl | exact Or.inr rfl) (me_op od_add (me_var (pv 1)) (me_op od_mul (me_lst (ma_cons me_str ma_nil)) (me_callT cd_int (by rfl) m_int (by decide +kernel) (ma_cons (me_ix (me_var (pv 0)) me_int (fun _ _ => rfl)) ma_nil))))))
  (show MSs _ _ wr__law_con_text_1 from (mss_one (ms_ret (me_op od_add (me_op od_add (me_ix (me_var (pv 0)) me_int (fun _ _ => rfl)) me_str) (me_if (mt_cmp (od_ne hr.units) (me_var (pv 1)) (me_lst ma_nil) (nomark _)) (me_join me_str (me_var (pv 1))) me_str)))))))))) ok__law_con_text
theorem gl__law_met {f : Addr} {fd : FuncData} (F : Fun K "_law_met" "_law_met" s__law_met f fd) (hm : mg "_law_met" = some (.ref f)) (hk : PySem.W.keepIn K (.ref f) = true) (hb : L2.Binds K fd ["_law_call"] []) (m_isinstance : mg "isinstance" = none) (m_repr : mg "repr" = none)    (ca_FactsError : Catcher K mg "FactsError" errs) (er : ErrK K errs) (ca_BadColumn : Catcher K mg "BadColumn" errs) (ca_BadRanges : Catcher K mg "BadRanges" errs) (ca_BadFlag : Catcher K mg "BadFlag" errs) (ca_ValueError : Catcher K mg "ValueError" errs) : CalleeL P w K mg base 7 "_law_met" "_law_call" C__law_met :=
  ⟨f, fd, s__law_met, N__law_met, F, sc__law_met, rfl, .inl rfl, hm, hk, hb, fun cdv A outer s H E hr hgu d L act => ⟨w__law_met d L, (show MSs _ _ (w__law_met d L) from (mss_cons (ms_asg (js := [1, 2]) (me_tup (ma_cons me_non (ma_cons me_non ma_nil))) (mg_tup rfl (mgs_cons (i := 1) sc__law_met.nd rfl (by first | exact Or.inl rfl | exact Or.inr rfl) (mgs_cons (i := 2) sc__law_met.nd rfl (by first | exact Or.inl rfl | exact Or.inr rfl) mgs_nil))))
  (show MSs _ _ (wr__law_met_6 d L) from (mss_cons (ms_try (cs := errs) rfl rfl rfl sc__law_met.nd (fun W pn xe tk po => (show MXs _ _ _ (wSetX 2 (wAct 0 d L)) from (mxs_one (mx_set (i := 2) sc__law_met.nd rfl (by first | exact Or.inl rfl | exact Or.inr rfl) (act W pn xe _ _ tk))))) (HdsD.as (i := 3) rfl (by decide) ca_FactsError rfl rfl (fun a pn => (show MSs _ _ (wFg [3] (wSet 1 (wVar 3))) from (mss_one (ms_fg (is := [3]) (ms_set (i := 1) sc__law_met.nd rfl (by first | exact Or.inl rfl | exact Or.inr rfl) (me_var (pv 3))))))) HdsD.nil))
  (show MSs _ _ (wr__law_met_5 d L) from (mss_cons (ms_fg (is := [2]) (ms_if (mt_cmp od_isN (me_var (pv 1)) me_non (nomark _)) (mss_one (ms_ret (me_tup (ma_cons me_str (ma_cons (me_var (pv 2)) ma_nil))))) mss_nil))
  (show MSs _ _ (wr__law_met_4 d L) from (mss_cons (ms_if (mt_val (me_isExc er ca_BadColumn (by rfl) m_isinstance (by rfl) (me_var (pv 1)))) (mss_one (ms_ret (me_tup (ma_cons me_str (ma_cons (me_callB (cd_repr hgu hr.units) (by rfl) m_repr (by decide +kernel) (ma_cons (me_excF er (me_var (pv 1))) ma_nil)) ma_nil))))) mss_nil)
  (show MSs _ _ (wr__law_met_3 d L) from (mss_cons (ms_if (mt_val (me_isExc er ca_BadRanges (by rfl) m_isinstance (by rfl) (me_var (pv 1)))) (mss_one (ms_ret (me_tup (ma_cons me_str (ma_cons (me_callB (cd_repr hgu hr.units) (by rfl) m_repr (by decide +kernel) (ma_cons (me_excF er (me_var (pv 1))) ma_nil)) ma_nil))))) mss_nil)
  (show MSs _ _ (wr__law_met_2 d L) from (mss_cons (ms_if (mt_val (me_isExc er ca_BadFlag (by rfl) m_isinstance (by rfl) (me_var (pv 1)))) (mss_one (ms_ret (me_tup (ma_cons me_str (ma_cons (me_callB (cd_repr hgu hr.units) (by rfl) m_repr (by decide +kernel) (ma_cons (me_excF er (me_var (pv 1))) ma_nil)) ma_nil))))) mss_nil)
  (show MSs _ _ (wr__law_met_1 d L) from (mss_one (ms_ret (me_tup (ma_cons me_str (ma_cons (me_isExc er ca_ValueError (by rfl) m_isinstance (by rfl) (me_var (pv 1))) ma_nil)))))))))))))))))), fun Q h => ok__law_met d L Q h⟩⟩
theorem fn__law_three {f : Addr} {fd : FuncData} (F : Fun K "_law_three" "_law_three" s__law_three f fd)   (c__law_any : Callee P w K mg base 2 "_law_any" ["_law_pot_here", "_law_items"] C__law_any) (c__law_spans : Callee P w K mg base 3 "_law_spans" ["_law_pot_here", "_law_most", "_law_low", "_law_high"] C__law_spans) (c__law_draw : Callee P w K mg base 1 "_law_draw" ["_law_pot_here", "_law_many"] C__law_draw) (c__law_odd : Callee P w K mg base 3 "_law_odd" ["_law_pot_here"] C__law_odd)   : FnG P w K mg base CX0 4 f fd ["_law_pot_here"] (spOf K 1 C__law_three) :=
  def_ok (k := 3) F sc__law_three (fun cdv A outer s H E hr hgu => (show MSs _ _ w__law_three from (mss_cons (ms_fz (is := [1]) (ms_set (i := 1) sc__law_three.nd rfl (by first | exact Or.inl rfl | exact Or.inr rfl) (c__law_any.callP (hr.mono (by decide)) hgu (by rfl) (pv 0) (ma_cons (me_k (.lst [(.str "a"), (.str "age"), (.str "abcdefgh"), (.str "zz"), (.str "and"), (.str "or"), (.str "andor"), (.str "abcdefghi"), (.str ""), (.str "a1"), (.str "A"), (.str "a b")]) (me_lst (ma_cons me_str (ma_cons me_str (ma_cons me_str (ma_cons me_str (ma_cons me_str (ma_cons me_str (ma_cons me_str (ma_cons me_str (ma_cons me_str (ma_cons me_str (ma_cons me_str (ma_cons me_str ma_nil)))))))))))))) ma_nil))))
  (show MSs _ _ wr__law_three_5 from (mss_cons (ms_asg (js := [2, 3]) (c__law_any.callP (hr.mono (by decide)) hgu (by rfl) (pv 0) (ma_cons (me_k (.lst [(.tup [(.int 0), (.int 30)]), (.tup [(.neg 9999), (.int 9999)]), (.tup [(.neg 10004), (.int 9)]), (.tup [(.int 9950), (.int 10003)]), (.tup [(.neg 9999), (.neg 9950)])]) (me_lst (ma_cons (me_tup (ma_cons me_int (ma_cons me_int ma_nil))) (ma_cons (me_tup (ma_cons (me_neg me_int) (ma_cons me_int ma_nil))) (ma_cons (me_tup (ma_cons (me_neg me_int) (ma_cons me_int ma_nil))) (ma_cons (me_tup (ma_cons me_int (ma_cons me_int ma_nil))) (ma_cons (me_tup (ma_cons (me_neg me_int) (ma_cons (me_neg me_int) ma_nil))) ma_nil))))))) ma_nil)) (mg_tup rfl (mgs_cons (i := 2) sc__law_three.nd rfl (by first | exact Or.inl rfl | exact Or.inr rfl) (mgs_cons (i := 3) sc__law_three.nd rfl (by first | exact Or.inl rfl | exact Or.inr rfl) mgs_nil))))
  (show MSs _ _ wr__law_three_4 from (mss_cons (ms_fg (is := [2, 3]) (ms_fz (is := [4, 5]) (ms_par (i := 4) (j := 5) rfl sc__law_three.nd rfl rfl (by decide) rfl rfl (c__law_spans.callP (hr.mono (by decide)) hgu (by rfl) (pv 0) (ma_cons (c__law_any.callP (hr.mono (by decide)) hgu (by rfl) (pv 0) (ma_cons (me_k (.lst [(.int 3), (.int 4), (.int 6)]) (me_lst (ma_cons me_int (ma_cons me_int (ma_cons me_int ma_nil))))) ma_nil)) (ma_cons (me_var (pv 2)) (ma_cons (me_var (pv 3)) ma_nil)))) (c__law_any.callP (hr.mono (by decide)) hgu (by rfl) (pv 0) (ma_cons (me_k (.lst [(.bl true), (.bl false), (.bl false), (.int 0), (.int 1), .non]) (me_lst (ma_cons me_bl (ma_cons me_bl (ma_cons me_bl (ma_cons me_int (ma_cons me_int (ma_cons me_non ma_nil)))))))) ma_nil)))))
  (show MSs _ _ wr__law_three_3 from (mss_cons (ms_fg (is := [1, 4, 5]) (ms_set (i := 6) sc__law_three.nd rfl (by first | exact Or.inl rfl | exact Or.inr rfl) (me_lst (ma_cons (me_var (pv 1)) (ma_cons (me_var (pv 4)) (ma_cons (me_var (pv 5)) ma_nil))))))
  (show MSs _ _ wr__law_three_2 from (mss_cons (ms_if (mt_cmp (od_eq hr.units) (c__law_draw.callP (hr.mono (by decide)) hgu (by rfl) (pv 0) (ma_cons me_int ma_nil)) me_int (nomark _)) (mss_one (ms_setIx (i := 6) (c__law_odd.callP (hr.mono (by decide)) hgu (by rfl) (pv 0) ma_nil) (pv 6) (c__law_draw.callP (hr.mono (by decide)) hgu (by rfl) (pv 0) (ma_cons me_int ma_nil)))) mss_nil)
  (show MSs _ _ wr__law_three_1 from (mss_one (ms_ret (me_var (pv 6)))))))))))))))) ok__law_three
theorem fn__law_due {f : Addr} {fd : FuncData} (F : Fun K "_law_due" "_law_due" s__law_due f fd) (m_repr : mg "repr" = none) (m_len : mg "len" = none) (m_any : mg "any" = none) (m_bool : mg "bool" = none) (m_isinstance : mg "isinstance" = none)  (c__law_is_name : Callee P w K mg base 1 "_law_is_name" ["_law_thing"] C__law_is_name) (c__law_is_set : Callee P w K mg base 2 "_law_is_set" ["_law_thing"] C__law_is_set) (c__law_con_text : Callee P w K mg base 1 "_law_con_text" ["_law_tree"] C__law_con_text)   : FnG P w K mg base CX0 3 f fd ["_law_name", "_law_spans_here", "_law_bare"] (spOf K 3 C__law_due) :=
  def_ok (k := 2) F sc__law_due (fun cdv A outer s H E hr hgu => (show MSs _ _ w__law_due from (mss_cons (ms_if (mt_not (mt_val (c__law_is_name.call (hr.mono (by decide)) hgu (by rfl) (ma_cons (me_var (pv 0)) ma_nil)))) (mss_one (ms_ret (me_tup (ma_cons me_str (ma_cons (me_callB (cd_repr hgu hr.units) (by rfl) m_repr (by decide +kernel) (ma_cons (me_var (pv 0)) ma_nil)) ma_nil))))) mss_nil)
  (show MSs _ _ wr__law_due_3 from (mss_cons (ms_if (mw_pt (mw_or (mt_not (mt_val (c__law_is_set.call (hr.mono (by decide)) hgu (by rfl) (ma_cons (me_var (pv 1)) ma_nil)))) (mw_or (mt_cmp od_gt (me_callB cd_len (by rfl) m_len (by decide +kernel) (ma_cons (me_var (pv 1)) ma_nil)) me_int (nomark _)) (mw_or1 (mt_val (me_callB (cd_any rfl) (by rfl) m_any (by decide +kernel) (ma_cons (me_lc (own := [("_law_low", 3), ("_law_high", 4)]) (js := [3, 4]) rfl sc__law_due.nd (mi_seq (me_var (pv 1))) (blkOk_by (own := [("_law_low", 3), ("_law_high", 4)]) (N := N__law_due) (sc := defScope s__law_due) (by decide +kernel)) (by decide) (fun _ _ _ _ _ => (mg_tup rfl (mgs_cons (i := 3) sc__law_due.nd rfl (by first | exact Or.inl rfl | exact Or.inr rfl) (mgs_cons (i := 4) sc__law_due.nd rfl (by first | exact Or.inl rfl | exact Or.inr rfl) mgs_nil)))) (fun _ _ _ _ _ => mts_nil) (fun _ _ _ _ _ => (me_or (me_cmp od_lt (me_var (pv 3)) (me_neg me_int) (nomark _)) (me_one (me_cmp od_gt (me_var (pv 4)) me_int (nomark _)))))) ma_nil))))))) (mss_one (ms_ret (me_tup (ma_cons me_str (ma_cons (me_callB (cd_repr hgu hr.units) (by rfl) m_repr (by decide +kernel) (ma_cons (me_var (pv 1)) ma_nil)) ma_nil))))) mss_nil)
  (show MSs _ _ wr__law_due_2 from (mss_cons (ms_if (mt_not (mt_val (me_callB cd_isi (by rfl) m_isinstance (by decide +kernel) (ma_cons (me_var (pv 2)) (ma_cons (me_bltn (by rfl) m_bool (by decide +kernel)) ma_nil))))) (mss_one (ms_ret (me_tup (ma_cons me_str (ma_cons (me_callB (cd_repr hgu hr.units) (by rfl) m_repr (by decide +kernel) (ma_cons (me_var (pv 2)) ma_nil)) ma_nil))))) mss_nil)
  (show MSs _ _ wr__law_due_1 from (mss_one (ms_ret (me_tup (ma_cons me_str (ma_cons (c__law_con_text.call (hr.mono (by decide)) hgu (by rfl) (ma_cons (me_tup (ma_cons me_str (ma_cons (me_var (pv 0)) (ma_cons (me_var (pv 1)) (ma_cons (me_var (pv 2)) ma_nil))))) ma_nil)) ma_nil))))))))))))) ok__law_due
theorem fn__law_shown {f : Addr} {fd : FuncData} (F : Fun K "_law_shown" "_law_shown" s__law_shown f fd)     (pr_Question_columns : PropG P w K mg base 1 "Question" "columns" C_Question_columns) (hF_Question_string : ObjF K "Question" "string") : FnG P w K mg base CX0 3 f fd ["_law_told", "_law_name"] (spOf K 2 C__law_shown) :=
  def_ok (k := 2) F sc__law_shown (fun cdv A outer s H E hr hgu => (show MSs _ _ w__law_shown from (mss_cons (ms_if (mt_cmp (od_ne hr.units) (me_ix (me_var (pv 0)) me_int (fun _ _ => rfl)) me_str (nomark _)) (mss_one (ms_ret (me_var (pv 0)))) mss_nil)
  (show MSs _ _ wr__law_shown_1 from (mss_one (ms_ret (me_if (mt_cmp (od_eq hr.units) (me_prop pr_Question_columns (hr.mono (by decide)) hgu (me_ix (me_var (pv 0)) me_int (fun _ _ => rfl))) (me_tup (ma_cons (me_var (pv 1)) ma_nil)) (nomark _)) (me_tup (ma_cons me_str (ma_cons (me_fld hF_Question_string (me_ix (me_var (pv 0)) me_int (fun _ _ => rfl))) ma_nil))) (me_tup (ma_cons me_str (ma_cons me_non ma_nil)))))))))) ok__law_shown
theorem fn__law_right {f : Addr} {fd : FuncData} {cA PA : Addr} (F : Fun K "_law_right" "_law_right" s__law_right f fd) (hTB : LamX.TabB base mg cA PA) (hfc : fd.code = .ref cA) (hnm : TabN.nm PA = some (("_law_right" : Str) ++ ".<locals>." ++ "<lambda>")) (m_range : mg "range" = none) (m_repr : mg "repr" = none)  (c__law_three : Callee P w K mg base 4 "_law_three" ["_law_pot_here"] C__law_three) (c__law_due : Callee P w K mg base 3 "_law_due" ["_law_name", "_law_spans_here", "_law_bare"] C__law_due) (c__law_shown : Callee P w K mg base 3 "_law_shown" ["_law_told", "_law_name"] C__law_shown)  (xn_where_missing : CalleeXN P w K mg base 6 "where" ["column", "ranges", "missing"] 2 ["missing"] X_where) (l__law_met : CalleeL P w K mg base 7 "_law_met" "_law_call" C__law_met) (xk_where_2_1_0 : CalleeXK P w K mg base 6 "where" ["column", "ranges", "missing"] ["missing", "ranges", "column"] [2, 1, 0] X_where) (xd_where : CalleeXD P w K mg base 6 "where" ["column", "ranges", "missing"] (.bl false) X_where) : FnG P w K mg base CX0 9 f fd ["_law_pot_here"] (spOf K 1 C__law_right) :=
  def_okL (k := 8) F sc__law_right (fun cdv A outer s H E hcd hr hgu => (show MSs _ _ w__law_right from (mss_cons (ms_fg (is := [1, 2, 3, 4, 5, 6, 7, 9]) (ms_for (js := [1]) PassesOwn.never rfl (mi_range1 (by rfl) m_range (ma_cons me_int ma_nil)) (mg_name (i := 1) sc__law_right.nd rfl (by first | exact Or.inl rfl | exact Or.inr rfl)) (show MSs _ _ wb__law_right_7 from (mss_fgl (is := [1, 2, 3, 4, 5, 6, 7, 9]) (js := []) (mss_cons (ms_asg (js := [2, 3, 4]) (c__law_three.callP (hr.mono (by decide)) hgu (by rfl) (pv 0) ma_nil) (mg_tup rfl (mgs_cons (i := 2) sc__law_right.nd rfl (by first | exact Or.inl rfl | exact Or.inr rfl) (mgs_cons (i := 3) sc__law_right.nd rfl (by first | exact Or.inl rfl | exact Or.inr rfl) (mgs_cons (i := 4) sc__law_right.nd rfl (by first | exact Or.inl rfl | exact Or.inr rfl) mgs_nil)))))
  (show MSs _ _ wr__law_right_6 from (mss_cons (ms_fz (is := [6]) (ms_par (i := 5) (j := 6) rfl sc__law_right.nd rfl rfl (by decide) rfl rfl (me_callB (cd_repr hgu hr.units) (by rfl) m_repr (by decide +kernel) (ma_cons (me_lst (ma_cons (me_var (pv 2)) (ma_cons (me_var (pv 3)) (ma_cons (me_var (pv 4)) ma_nil)))) ma_nil)) (c__law_due.call (hr.mono (by decide)) hgu (by rfl) (ma_cons (me_var (pv 2)) (ma_cons (me_var (pv 3)) (ma_cons (me_var (pv 4)) ma_nil))))))
  (show MSs _ _ wr__law_right_5 from (mss_cons (ms_set (i := 7) sc__law_right.nd rfl (by first | exact Or.inl rfl | exact Or.inr rfl) (me_lst (ma_cons (me_lam (js := [2, 3, 4]) (k := 6) l__law_met ⟨⟨cA, PA, hTB, hcd.symm.trans hfc, hnm⟩⟩ (hr.mono (by decide)) hgu rfl (LamX.lamS_by (by kernel_rfl)) rfl (fun _ _ _ _ _ => rfl) (fun A outer s H E f c hr hgu tk => (show MEX _ _ _ (wCallXPK X_where [(wVar 2), (wVar 3)] [(wVar 4)]) from (xn_where_missing.callN tk (hr.mono (by decide)) hgu rfl (ma_cons (me_var (pv 2)) (ma_cons (me_var (pv 3)) ma_nil)) (mk_cons (me_var (pv 4)) mk_nil))))) ma_nil)))
  (show MSs _ _ wr__law_right_4 from (mss_cons (ms_expr (me_mut PySem.F.plainAttrs_list PySem.F.slot_list_append PySem.F.type_list_append mt_append mut_append (pv 7) (ma_cons (me_lam (js := [2, 3, 4]) (k := 6) l__law_met ⟨⟨cA, PA, hTB, hcd.symm.trans hfc, hnm⟩⟩ (hr.mono (by decide)) hgu rfl (LamX.lamS_by (by kernel_rfl)) rfl (fun _ _ _ _ _ => rfl) (fun A outer s H E f c hr hgu tk => (show MEX _ _ _ (wCallXK X_where [(wVar 4), (wVar 3), (wVar 2)] [2, 1, 0]) from (xk_where_2_1_0.callK tk (hr.mono (by decide)) hgu rfl (mk_cons (me_var (pv 4)) (mk_cons (me_var (pv 3)) (mk_cons (me_var (pv 2)) mk_nil))))))) ma_nil)))
  (show MSs _ _ wr__law_right_3 from (mss_cons (ms_fg (is := [4, 5, 6, 7]) (ms_if (mw_pt (mw_or (mt_cmp (od_ne hr.units) (me_lc (own := [("_law_told", 8)]) (js := [8]) rfl sc__law_right.nd (mi_seq (me_var (pv 7))) (blkOk_by (own := [("_law_told", 8)]) (N := N__law_right) (sc := defScope s__law_right) (by decide +kernel)) (by decide) (fun _ _ _ _ _ => (mg_name (i := 8) sc__law_right.nd rfl (by first | exact Or.inl rfl | exact Or.inr rfl))) (fun _ _ _ _ _ => mts_nil) (fun _ _ _ _ _ => (c__law_shown.call (hr.mono (by decide)) hgu (by rfl) (ma_cons (me_var (pv 8)) (ma_cons (me_var (pv 2)) ma_nil))))) (me_lst (ma_cons (me_var (pv 6)) (ma_cons (me_var (pv 6)) ma_nil))) (nomark _)) (mw_or1 (mt_cmp (od_ne hr.units) (me_callB (cd_repr hgu hr.units) (by rfl) m_repr (by decide +kernel) (ma_cons (me_lst (ma_cons (me_var (pv 2)) (ma_cons (me_var (pv 3)) (ma_cons (me_var (pv 4)) ma_nil)))) ma_nil)) (me_var (pv 5)) (nomark _))))) (mss_one (ms_ret me_bl)) mss_nil))
  (show MSs _ _ wr__law_right_2 from (mss_cons (ms_fz (is := [9]) (ms_set (i := 9) sc__law_right.nd rfl (by first | exact Or.inl rfl | exact Or.inr rfl) (me_lam (js := [2, 3]) (k := 6) l__law_met ⟨⟨cA, PA, hTB, hcd.symm.trans hfc, hnm⟩⟩ (hr.mono (by decide)) hgu rfl (LamX.lamS_by (by kernel_rfl)) rfl (fun _ _ _ _ _ => rfl) (fun A outer s H E f c hr hgu tk => (show MEX _ _ _ (wCallXPK X_where [(wVar 2), (wVar 3)] [(wC (.bl false))]) from (xd_where.call tk (hr.mono (by decide)) hgu rfl (ma_cons (me_var (pv 2)) (ma_cons (me_var (pv 3)) ma_nil))))))))
  (show MSs _ _ wr__law_right_1 from (mss_one (ms_fg (is := [2, 3, 9]) (ms_if (mt_cmp (od_ne hr.units) (c__law_shown.call (hr.mono (by decide)) hgu (by rfl) (ma_cons (me_var (pv 9)) (ma_cons (me_var (pv 2)) ma_nil))) (c__law_due.call (hr.mono (by decide)) hgu (by rfl) (ma_cons (me_var (pv 2)) (ma_cons (me_var (pv 3)) (ma_cons me_bl ma_nil)))) (nomark _)) (mss_one (ms_ret me_bl)) mss_nil)))))))))))))))))))
  (show MSs _ _ wr__law_right_8 from (mss_one (ms_ret me_bl)))))) ok__law_right
theorem fn_law {f : Addr} {fd : FuncData} (F : Fun K "law" "law" s_law f fd) (m_len : mg "len" = none) (m_min : mg "min" = none) (m_max : mg "max" = none) (m_range : mg "range" = none)  (c__law_right : Callee P w K mg base 9 "_law_right" ["_law_pot_here"] C__law_right) (c__law_pot : Callee P w K mg base 1 "_law_pot" ["_law_script", "_law_k"] C__law_pot)   : FnG P w K mg base CX0 10 f fd ["_law_script"] (spOf K 1 C_law) :=
  def_ok (k := 9) F sc_law (fun cdv A outer s H E hr hgu => (show MSs _ _ w_law from (mss_cons (ms_fg (is := [1]) (ms_for (js := [1]) PassesOwn.never rfl (mi_range1 (by rfl) m_range (ma_cons (me_callB (cd_max rfl) (by rfl) m_max (by decide +kernel) (ma_cons me_int (ma_cons (me_callB (cd_min rfl) (by rfl) m_min (by decide +kernel) (ma_cons me_int (ma_cons (me_callB cd_len (by rfl) m_len (by decide +kernel) (ma_cons (me_var (pv 0)) ma_nil)) ma_nil))) ma_nil))) ma_nil)) (mg_name (i := 1) sc_law.nd rfl (by first | exact Or.inl rfl | exact Or.inr rfl)) (show MSs _ _ wb_law_1 from (mss_fgl (is := [1]) (js := []) (mss_one (ms_fg (is := [1]) (ms_if (mt_not (mt_val (c__law_right.callN (hr.mono (by decide)) hgu (by rfl) (c__law_pot.call (hr.mono (by decide)) hgu (by rfl) (ma_cons (me_var (pv 0)) (ma_cons (me_var (pv 1)) ma_nil)))))) (mss_one (ms_ret me_bl)) mss_nil)))))))
  (show MSs _ _ wr_law_2 from (mss_one (ms_ret me_bl)))))) ok_law
end
end Tk
end Lw
namespace Lw
open PySem L2 Dl Rs
namespace Tk
set_option maxHeartbeats 0 in
theorem all_mk [TabN] {cA PA : Addr} {l : PySem.W.OpenLaw} {w : World} {K : PySem.W.Frag} {h : Heap} {mg : Str → Option Value} {fa : Addr} (X : K.In h) (G : h.Ns mainGlobals mg) (hfa : mg "law" = some (.ref fa))
    {C_Question : Addr}
    {f0 : Addr} {od0 an0 : Option Addr} {sl0 : Array (Option Value)} {oc0 kV0 dc0 pm0 cd0 ct0 : Value}
    {f1 : Addr} {od1 an1 : Option Addr} {sl1 : Array (Option Value)} {oc1 kV1 dc1 pm1 cd1 ct1 : Value}
    {f2 : Addr} {od2 an2 : Option Addr} {sl2 : Array (Option Value)} {oc2 kV2 dc2 pm2 cd2 ct2 : Value}
    {f3 : Addr} {od3 an3 : Option Addr} {sl3 : Array (Option Value)} {oc3 kV3 dc3 pm3 cd3 ct3 : Value}
    {f4 : Addr} {od4 an4 : Option Addr} {sl4 : Array (Option Value)} {oc4 kV4 dc4 pm4 cd4 ct4 : Value}
    {f5 : Addr} {od5 an5 : Option Addr} {sl5 : Array (Option Value)} {oc5 kV5 dc5 pm5 cd5 ct5 : Value}
    {f6 : Addr} {od6 an6 : Option Addr} {sl6 : Array (Option Value)} {oc6 kV6 dc6 pm6 cd6 ct6 : Value}
    {f7 : Addr} {od7 an7 : Option Addr} {sl7 : Array (Option Value)} {oc7 kV7 dc7 pm7 cd7 ct7 : Value}
    {f8 : Addr} {od8 an8 : Option Addr} {sl8 : Array (Option Value)} {oc8 kV8 dc8 pm8 cd8 ct8 : Value}
    {f9 : Addr} {od9 an9 : Option Addr} {sl9 : Array (Option Value)} {oc9 kV9 dc9 pm9 cd9 ct9 : Value}
    {f10 : Addr} {od10 an10 : Option Addr} {sl10 : Array (Option Value)} {oc10 kV10 dc10 pm10 cd10 ct10 : Value}
    {f11 : Addr} {od11 an11 : Option Addr} {sl11 : Array (Option Value)} {oc11 kV11 dc11 pm11 cd11 ct11 : Value}
    {f12 : Addr} {od12 an12 : Option Addr} {sl12 : Array (Option Value)} {oc12 kV12 dc12 pm12 cd12 ct12 : Value}
    {f13 : Addr} {od13 an13 : Option Addr} {sl13 : Array (Option Value)} {oc13 kV13 dc13 pm13 cd13 ct13 : Value}
    {f14 : Addr} {od14 an14 : Option Addr} {sl14 : Array (Option Value)} {oc14 kV14 dc14 pm14 cd14 ct14 : Value}
    {f15 : Addr} {od15 an15 : Option Addr} {sl15 : Array (Option Value)} {oc15 kV15 dc15 pm15 cd15 ct15 : Value}
    {f16 : Addr} {od16 an16 : Option Addr} {sl16 : Array (Option Value)} {oc16 kV16 dc16 pm16 cd16 ct16 : Value}
    {f17 : Addr} {od17 an17 : Option Addr} {sl17 : Array (Option Value)} {oc17 kV17 dc17 pm17 cd17 ct17 : Value}
    {f18 : Addr} {od18 an18 : Option Addr} {sl18 : Array (Option Value)} {oc18 kV18 dc18 pm18 cd18 ct18 : Value}
    {p18 : Addr} {rest18 : List Value}
    {f19 : Addr} {od19 an19 : Option Addr} {sl19 : Array (Option Value)} {oc19 dc19 pm19 cd19 ct19 : Value} {Dk19 : Addr}
    {f20 : Addr} {od20 an20 : Option Addr} {sl20 : Array (Option Value)} {oc20 kV20 dc20 pm20 cd20 ct20 : Value}
    {f21 : Addr} {od21 an21 : Option Addr} {sl21 : Array (Option Value)} {oc21 kV21 dc21 pm21 cd21 ct21 : Value}
    {f22 : Addr} {od22 an22 : Option Addr} {sl22 : Array (Option Value)} {oc22 kV22 dc22 pm22 cd22 ct22 : Value}
    {f23 : Addr} {od23 an23 : Option Addr} {sl23 : Array (Option Value)} {oc23 kV23 dc23 pm23 cd23 ct23 : Value}
    {f24 : Addr} {od24 an24 : Option Addr} {sl24 : Array (Option Value)} {oc24 kV24 dc24 pm24 cd24 ct24 : Value}
    {f25 : Addr} {od25 an25 : Option Addr} {sl25 : Array (Option Value)} {oc25 kV25 dc25 pm25 cd25 ct25 : Value}
    {f26 : Addr} {od26 an26 : Option Addr} {sl26 : Array (Option Value)} {oc26 kV26 dc26 pm26 cd26 ct26 : Value}
    {f27 : Addr} {od27 an27 : Option Addr} {sl27 : Array (Option Value)} {oc27 kV27 dc27 pm27 cd27 ct27 : Value}
    {f28 : Addr} {od28 an28 : Option Addr} {sl28 : Array (Option Value)} {oc28 kV28 dc28 pm28 cd28 ct28 : Value}
    {f29 : Addr} {od29 an29 : Option Addr} {sl29 : Array (Option Value)} {oc29 kV29 dc29 pm29 cd29 ct29 : Value}
    {f30 : Addr} {od30 an30 : Option Addr} {sl30 : Array (Option Value)} {oc30 kV30 dc30 pm30 cd30 ct30 : Value}
    {f31 : Addr} {od31 an31 : Option Addr} {sl31 : Array (Option Value)} {oc31 kV31 dc31 pm31 cd31 ct31 : Value}
    {f32 : Addr} {od32 an32 : Option Addr} {sl32 : Array (Option Value)} {oc32 kV32 dc32 pm32 cd32 ct32 : Value}
    {f33 : Addr} {od33 an33 : Option Addr} {sl33 : Array (Option Value)} {oc33 kV33 dc33 pm33 cd33 ct33 : Value}
    {f34 : Addr} {od34 an34 : Option Addr} {sl34 : Array (Option Value)} {oc34 kV34 dc34 pm34 cd34 ct34 : Value}
    {tPAIR_1 : Tok}
    {tMOST_LETTERS_1 : Tok}
    {tWORDS_2 : Tok} {tWORDS_3 : Tok} {aWORDS_1 : Addr} {dWORDS_1 : Option Addr} {nWORDS_1 : Nat} {slWORDS_1 : Array (Option Value)}
    {tSMALL_1 : Tok}
    {tLEAST_1 : Tok}
    {tGREATEST_1 : Tok}
    {tMOST_PAIRS_1 : Tok}
    {tCONDITION_1 : Tok}
    {tJOINED_1 : Tok}
    {tNEGATED_1 : Tok}
    {tBETWEEN_1 : Tok}
    {tMISSING_1 : Tok}
    {tNOTHING_1 : Tok}
    {tMOST_COLUMNS_1 : Tok}
    (aC_Question : PySem.W.nsIn K mainGlobals "Question" = some (some (.ref C_Question)))
    (pg_Question : PySem.W.plainGet K C_Question Str.empty = true)
    (hd_Question : PySem.W.hasDictIn K C_Question = true)
    (po_Question : PySem.W.plainOver K C_Question = true)
    (sa_Question : PySem.W.findIn K (.ref C_Question) "__setattr__" = some (some (.builtin "object.__setattr__")))
    (ms_Question : PySem.W.makesIn K C_Question = true)
    (kc_Question : PySem.W.keepIn K (.ref C_Question) = true)
    (sf_Question : PySem.W.selfFirst K C_Question = true)
    (na_tree_Question : PySem.W.findIn K (.ref C_Question) "tree" = some none)
    (na_column_list_Question : PySem.W.findIn K (.ref C_Question) "column_list" = some none)
    (na_string_Question : PySem.W.findIn K (.ref C_Question) "string" = some none)
    (a0 : PySem.W.nsIn K mainGlobals "is_integer" = some (some (.ref f0)))
    (l0 : K.lookup f0 = some ⟨oc0, od0, .func (PySem.W.fnOf "is_integer" "is_integer" (defArgs s_is_integer) (defBody s_is_integer) (defScope s_is_integer) .none kV0 dc0 pm0 an0 cd0 ct0), sl0⟩) (c0 : PySem.W.codeIn K cd0 "is_integer" = true) (k0 : PySem.W.keepIn K (.ref f0) = true)
    (a1 : PySem.W.nsIn K mainGlobals "is_pair" = some (some (.ref f1)))
    (l1 : K.lookup f1 = some ⟨oc1, od1, .func (PySem.W.fnOf "is_pair" "is_pair" (defArgs s_is_pair) (defBody s_is_pair) (defScope s_is_pair) .none kV1 dc1 pm1 an1 cd1 ct1), sl1⟩) (c1 : PySem.W.codeIn K cd1 "is_pair" = true) (k1 : PySem.W.keepIn K (.ref f1) = true)
    (a2 : PySem.W.nsIn K mainGlobals "is_ranges" = some (some (.ref f2)))
    (l2 : K.lookup f2 = some ⟨oc2, od2, .func (PySem.W.fnOf "is_ranges" "is_ranges" (defArgs s_is_ranges) (defBody s_is_ranges) (defScope s_is_ranges) .none kV2 dc2 pm2 an2 cd2 ct2), sl2⟩) (c2 : PySem.W.codeIn K cd2 "is_ranges" = true) (k2 : PySem.W.keepIn K (.ref f2) = true)
    (a3 : PySem.W.nsIn K mainGlobals "united" = some (some (.ref f3)))
    (l3 : K.lookup f3 = some ⟨oc3, od3, .func (PySem.W.fnOf "united" "united" (defArgs s_united) (defBody s_united) (defScope s_united) .none kV3 dc3 pm3 an3 cd3 ct3), sl3⟩) (c3 : PySem.W.codeIn K cd3 "united" = true) (k3 : PySem.W.keepIn K (.ref f3) = true)
    (a4 : PySem.W.nsIn K mainGlobals "both" = some (some (.ref f4)))
    (l4 : K.lookup f4 = some ⟨oc4, od4, .func (PySem.W.fnOf "both" "both" (defArgs s_both) (defBody s_both) (defScope s_both) .none kV4 dc4 pm4 an4 cd4 ct4), sl4⟩) (c4 : PySem.W.codeIn K cd4 "both" = true) (k4 : PySem.W.keepIn K (.ref f4) = true)
    (a5 : PySem.W.nsIn K mainGlobals "either" = some (some (.ref f5)))
    (l5 : K.lookup f5 = some ⟨oc5, od5, .func (PySem.W.fnOf "either" "either" (defArgs s_either) (defBody s_either) (defScope s_either) .none kV5 dc5 pm5 an5 cd5 ct5), sl5⟩) (c5 : PySem.W.codeIn K cd5 "either" = true) (k5 : PySem.W.keepIn K (.ref f5) = true)
    (a6 : PySem.W.nsIn K mainGlobals "gaps" = some (some (.ref f6)))
    (l6 : K.lookup f6 = some ⟨oc6, od6, .func (PySem.W.fnOf "gaps" "gaps" (defArgs s_gaps) (defBody s_gaps) (defScope s_gaps) .none kV6 dc6 pm6 an6 cd6 ct6), sl6⟩) (c6 : PySem.W.codeIn K cd6 "gaps" = true) (k6 : PySem.W.keepIn K (.ref f6) = true)
    (a7 : PySem.W.nsIn K mainGlobals "without" = some (some (.ref f7)))
    (l7 : K.lookup f7 = some ⟨oc7, od7, .func (PySem.W.fnOf "without" "without" (defArgs s_without) (defBody s_without) (defScope s_without) .none kV7 dc7 pm7 an7 cd7 ct7), sl7⟩) (c7 : PySem.W.codeIn K cd7 "without" = true) (k7 : PySem.W.keepIn K (.ref f7) = true)
    (a8 : PySem.W.nsIn K mainGlobals "is_column" = some (some (.ref f8)))
    (l8 : K.lookup f8 = some ⟨oc8, od8, .func (PySem.W.fnOf "is_column" "is_column" (defArgs s_is_column) (defBody s_is_column) (defScope s_is_column) .none kV8 dc8 pm8 an8 cd8 ct8), sl8⟩) (c8 : PySem.W.codeIn K cd8 "is_column" = true) (k8 : PySem.W.keepIn K (.ref f8) = true)
    (a9 : PySem.W.nsIn K mainGlobals "are_within" = some (some (.ref f9)))
    (l9 : K.lookup f9 = some ⟨oc9, od9, .func (PySem.W.fnOf "are_within" "are_within" (defArgs s_are_within) (defBody s_are_within) (defScope s_are_within) .none kV9 dc9 pm9 an9 cd9 ct9), sl9⟩) (c9 : PySem.W.codeIn K cd9 "are_within" = true) (k9 : PySem.W.keepIn K (.ref f9) = true)
    (a10 : PySem.W.nsIn K mainGlobals "is_taken_set" = some (some (.ref f10)))
    (l10 : K.lookup f10 = some ⟨oc10, od10, .func (PySem.W.fnOf "is_taken_set" "is_taken_set" (defArgs s_is_taken_set) (defBody s_is_taken_set) (defScope s_is_taken_set) .none kV10 dc10 pm10 an10 cd10 ct10), sl10⟩) (c10 : PySem.W.codeIn K cd10 "is_taken_set" = true) (k10 : PySem.W.keepIn K (.ref f10) = true)
    (a11 : PySem.W.nsIn K mainGlobals "columns_in" = some (some (.ref f11)))
    (l11 : K.lookup f11 = some ⟨oc11, od11, .func (PySem.W.fnOf "columns_in" "columns_in" (defArgs s_columns_in) (defBody s_columns_in) (defScope s_columns_in) .none kV11 dc11 pm11 an11 cd11 ct11), sl11⟩) (c11 : PySem.W.codeIn K cd11 "columns_in" = true) (k11 : PySem.W.keepIn K (.ref f11) = true)
    (a12 : PySem.W.nsIn K mainGlobals "widest_in" = some (some (.ref f12)))
    (l12 : K.lookup f12 = some ⟨oc12, od12, .func (PySem.W.fnOf "widest_in" "widest_in" (defArgs s_widest_in) (defBody s_widest_in) (defScope s_widest_in) .none kV12 dc12 pm12 an12 cd12 ct12), sl12⟩) (c12 : PySem.W.codeIn K cd12 "widest_in" = true) (k12 : PySem.W.keepIn K (.ref f12) = true)
    (a13 : PySem.W.nsIn K mainGlobals "settled" = some (some (.ref f13)))
    (l13 : K.lookup f13 = some ⟨oc13, od13, .func (PySem.W.fnOf "settled" "settled" (defArgs s_settled) (defBody s_settled) (defScope s_settled) .none kV13 dc13 pm13 an13 cd13 ct13), sl13⟩) (c13 : PySem.W.codeIn K cd13 "settled" = true) (k13 : PySem.W.keepIn K (.ref f13) = true)
    (a14 : PySem.W.nsIn K mainGlobals "pair_text" = some (some (.ref f14)))
    (l14 : K.lookup f14 = some ⟨oc14, od14, .func (PySem.W.fnOf "pair_text" "pair_text" (defArgs s_pair_text) (defBody s_pair_text) (defScope s_pair_text) .none kV14 dc14 pm14 an14 cd14 ct14), sl14⟩) (c14 : PySem.W.codeIn K cd14 "pair_text" = true) (k14 : PySem.W.keepIn K (.ref f14) = true)
    (a15 : PySem.W.nsIn K mainGlobals "condition_text" = some (some (.ref f15)))
    (l15 : K.lookup f15 = some ⟨oc15, od15, .func (PySem.W.fnOf "condition_text" "condition_text" (defArgs s_condition_text) (defBody s_condition_text) (defScope s_condition_text) .none kV15 dc15 pm15 an15 cd15 ct15), sl15⟩) (c15 : PySem.W.codeIn K cd15 "condition_text" = true) (k15 : PySem.W.keepIn K (.ref f15) = true)
    (a16 : PySem.W.nsIn K mainGlobals "tree_text" = some (some (.ref f16)))
    (l16 : K.lookup f16 = some ⟨oc16, od16, .func (PySem.W.fnOf "tree_text" "tree_text" (defArgs s_tree_text) (defBody s_tree_text) (defScope s_tree_text) .none kV16 dc16 pm16 an16 cd16 ct16), sl16⟩) (c16 : PySem.W.codeIn K cd16 "tree_text" = true) (k16 : PySem.W.keepIn K (.ref f16) = true)
    (a17 : PySem.W.findIn K (.ref C_Question) "__init__" = some (some (.ref f17))) (n17 : PySem.W.isFn K (.ref f17) = true)
    (l17 : K.lookup f17 = some ⟨oc17, od17, .func (PySem.W.fnOf "__init__" "Question.__init__" (defArgs s_Question___init__) (defBody s_Question___init__) (defScope s_Question___init__) .none kV17 dc17 pm17 an17 cd17 ct17), sl17⟩) (c17 : PySem.W.codeIn K cd17 "Question.__init__" = true) (k17 : PySem.W.keepIn K (.ref f17) = true)
    (a18 : PySem.W.findIn K (.ref C_Question) "columns" = some (some (.ref p18))) (g18 : PySem.W.specialIn K (.ref p18) "__get__" = some (some (.builtin "property.__get__"))) (t18 : PySem.W.takesIn K (.ref p18) = some true) (r18 : PySem.W.recIn K p18 "property" = some (.ref f18 :: rest18))
    (l18 : K.lookup f18 = some ⟨oc18, od18, .func (PySem.W.fnOf "columns" "Question.columns" (defArgs s_Question_columns) (defBody s_Question_columns) (defScope s_Question_columns) .none kV18 dc18 pm18 an18 cd18 ct18), sl18⟩) (c18 : PySem.W.codeIn K cd18 "Question.columns" = true) (k18 : PySem.W.keepIn K (.ref f18) = true)
    (a19 : PySem.W.nsIn K mainGlobals "where" = some (some (.ref f19)))
    (l19 : K.lookup f19 = some ⟨oc19, od19, .func (PySem.W.fnOf "where" "where" (defArgs s_where) (defBody s_where) (defScope s_where) .none (.ref Dk19) dc19 pm19 an19 cd19 ct19), sl19⟩) (c19 : PySem.W.codeIn K cd19 "where" = true) (k19 : PySem.W.keepIn K (.ref f19) = true) (e19 : PySem.W.nsIn K Dk19 "missing" = some (some (.bool false)))
    (a20 : PySem.W.nsIn K mainGlobals "_law_pot" = some (some (.ref f20)))
    (l20 : K.lookup f20 = some ⟨oc20, od20, .func (PySem.W.fnOf "_law_pot" "_law_pot" (defArgs s__law_pot) (defBody s__law_pot) (defScope s__law_pot) .none kV20 dc20 pm20 an20 cd20 ct20), sl20⟩) (c20 : PySem.W.codeIn K cd20 "_law_pot" = true) (k20 : PySem.W.keepIn K (.ref f20) = true)
    (a21 : PySem.W.nsIn K mainGlobals "_law_draw" = some (some (.ref f21)))
    (l21 : K.lookup f21 = some ⟨oc21, od21, .func (PySem.W.fnOf "_law_draw" "_law_draw" (defArgs s__law_draw) (defBody s__law_draw) (defScope s__law_draw) .none kV21 dc21 pm21 an21 cd21 ct21), sl21⟩) (c21 : PySem.W.codeIn K cd21 "_law_draw" = true) (k21 : PySem.W.keepIn K (.ref f21) = true)
    (a22 : PySem.W.nsIn K mainGlobals "_law_any" = some (some (.ref f22)))
    (l22 : K.lookup f22 = some ⟨oc22, od22, .func (PySem.W.fnOf "_law_any" "_law_any" (defArgs s__law_any) (defBody s__law_any) (defScope s__law_any) .none kV22 dc22 pm22 an22 cd22 ct22), sl22⟩) (c22 : PySem.W.codeIn K cd22 "_law_any" = true) (k22 : PySem.W.keepIn K (.ref f22) = true)
    (a23 : PySem.W.nsIn K mainGlobals "_law_odd" = some (some (.ref f23)))
    (l23 : K.lookup f23 = some ⟨oc23, od23, .func (PySem.W.fnOf "_law_odd" "_law_odd" (defArgs s__law_odd) (defBody s__law_odd) (defScope s__law_odd) .none kV23 dc23 pm23 an23 cd23 ct23), sl23⟩) (c23 : PySem.W.codeIn K cd23 "_law_odd" = true) (k23 : PySem.W.keepIn K (.ref f23) = true)
    (a24 : PySem.W.nsIn K mainGlobals "_law_spans" = some (some (.ref f24)))
    (l24 : K.lookup f24 = some ⟨oc24, od24, .func (PySem.W.fnOf "_law_spans" "_law_spans" (defArgs s__law_spans) (defBody s__law_spans) (defScope s__law_spans) .none kV24 dc24 pm24 an24 cd24 ct24), sl24⟩) (c24 : PySem.W.codeIn K cd24 "_law_spans" = true) (k24 : PySem.W.keepIn K (.ref f24) = true)
    (a25 : PySem.W.nsIn K mainGlobals "_law_is_integer" = some (some (.ref f25)))
    (l25 : K.lookup f25 = some ⟨oc25, od25, .func (PySem.W.fnOf "_law_is_integer" "_law_is_integer" (defArgs s__law_is_integer) (defBody s__law_is_integer) (defScope s__law_is_integer) .none kV25 dc25 pm25 an25 cd25 ct25), sl25⟩) (c25 : PySem.W.codeIn K cd25 "_law_is_integer" = true) (k25 : PySem.W.keepIn K (.ref f25) = true)
    (a26 : PySem.W.nsIn K mainGlobals "_law_is_set" = some (some (.ref f26)))
    (l26 : K.lookup f26 = some ⟨oc26, od26, .func (PySem.W.fnOf "_law_is_set" "_law_is_set" (defArgs s__law_is_set) (defBody s__law_is_set) (defScope s__law_is_set) .none kV26 dc26 pm26 an26 cd26 ct26), sl26⟩) (c26 : PySem.W.codeIn K cd26 "_law_is_set" = true) (k26 : PySem.W.keepIn K (.ref f26) = true)
    (a27 : PySem.W.nsIn K mainGlobals "_law_is_name" = some (some (.ref f27)))
    (l27 : K.lookup f27 = some ⟨oc27, od27, .func (PySem.W.fnOf "_law_is_name" "_law_is_name" (defArgs s__law_is_name) (defBody s__law_is_name) (defScope s__law_is_name) .none kV27 dc27 pm27 an27 cd27 ct27), sl27⟩) (c27 : PySem.W.codeIn K cd27 "_law_is_name" = true) (k27 : PySem.W.keepIn K (.ref f27) = true)
    (a28 : PySem.W.nsIn K mainGlobals "_law_con_text" = some (some (.ref f28)))
    (l28 : K.lookup f28 = some ⟨oc28, od28, .func (PySem.W.fnOf "_law_con_text" "_law_con_text" (defArgs s__law_con_text) (defBody s__law_con_text) (defScope s__law_con_text) .none kV28 dc28 pm28 an28 cd28 ct28), sl28⟩) (c28 : PySem.W.codeIn K cd28 "_law_con_text" = true) (k28 : PySem.W.keepIn K (.ref f28) = true)
    (a29 : PySem.W.nsIn K mainGlobals "_law_met" = some (some (.ref f29)))
    (l29 : K.lookup f29 = some ⟨oc29, od29, .func (PySem.W.fnOf "_law_met" "_law_met" (defArgs s__law_met) (defBody s__law_met) (defScope s__law_met) .none kV29 dc29 pm29 an29 cd29 ct29), sl29⟩) (c29 : PySem.W.codeIn K cd29 "_law_met" = true) (k29 : PySem.W.keepIn K (.ref f29) = true)
    (a30 : PySem.W.nsIn K mainGlobals "_law_three" = some (some (.ref f30)))
    (l30 : K.lookup f30 = some ⟨oc30, od30, .func (PySem.W.fnOf "_law_three" "_law_three" (defArgs s__law_three) (defBody s__law_three) (defScope s__law_three) .none kV30 dc30 pm30 an30 cd30 ct30), sl30⟩) (c30 : PySem.W.codeIn K cd30 "_law_three" = true) (k30 : PySem.W.keepIn K (.ref f30) = true)
    (a31 : PySem.W.nsIn K mainGlobals "_law_due" = some (some (.ref f31)))
    (l31 : K.lookup f31 = some ⟨oc31, od31, .func (PySem.W.fnOf "_law_due" "_law_due" (defArgs s__law_due) (defBody s__law_due) (defScope s__law_due) .none kV31 dc31 pm31 an31 cd31 ct31), sl31⟩) (c31 : PySem.W.codeIn K cd31 "_law_due" = true) (k31 : PySem.W.keepIn K (.ref f31) = true)
    (a32 : PySem.W.nsIn K mainGlobals "_law_shown" = some (some (.ref f32)))
    (l32 : K.lookup f32 = some ⟨oc32, od32, .func (PySem.W.fnOf "_law_shown" "_law_shown" (defArgs s__law_shown) (defBody s__law_shown) (defScope s__law_shown) .none kV32 dc32 pm32 an32 cd32 ct32), sl32⟩) (c32 : PySem.W.codeIn K cd32 "_law_shown" = true) (k32 : PySem.W.keepIn K (.ref f32) = true)
    (a33 : PySem.W.nsIn K mainGlobals "_law_right" = some (some (.ref f33)))
    (l33 : K.lookup f33 = some ⟨oc33, od33, .func (PySem.W.fnOf "_law_right" "_law_right" (defArgs s__law_right) (defBody s__law_right) (defScope s__law_right) .none kV33 dc33 pm33 an33 cd33 ct33), sl33⟩) (c33 : PySem.W.codeIn K cd33 "_law_right" = true) (k33 : PySem.W.keepIn K (.ref f33) = true)
    (a34 : PySem.W.nsIn K mainGlobals "law" = some (some (.ref f34)))
    (l34 : K.lookup f34 = some ⟨oc34, od34, .func (PySem.W.fnOf "law" "law" (defArgs s_law) (defBody s_law) (defScope s_law) .none kV34 dc34 pm34 an34 cd34 ct34), sl34⟩) (c34 : PySem.W.codeIn K cd34 "law" = true) (k34 : PySem.W.keepIn K (.ref f34) = true)
    (z_int : PySem.W.nsIn K mainGlobals "int" = some none) (z_isinstance : PySem.W.nsIn K mainGlobals "isinstance" = some none) (z_bool : PySem.W.nsIn K mainGlobals "bool" = some none) (z_tuple : PySem.W.nsIn K mainGlobals "tuple" = some none) (z_len : PySem.W.nsIn K mainGlobals "len" = some none) (z_all : PySem.W.nsIn K mainGlobals "all" = some none) (z_zip : PySem.W.nsIn K mainGlobals "zip" = some none) (z_sorted : PySem.W.nsIn K mainGlobals "sorted" = some none) (z_max : PySem.W.nsIn K mainGlobals "max" = some none) (z_min : PySem.W.nsIn K mainGlobals "min" = some none) (z_str : PySem.W.nsIn K mainGlobals "str" = some none) (z_abs : PySem.W.nsIn K mainGlobals "abs" = some none) (z_range : PySem.W.nsIn K mainGlobals "range" = some none) (z_repr : PySem.W.nsIn K mainGlobals "repr" = some none) (z_any : PySem.W.nsIn K mainGlobals "any" = some none)
    (z_PAIR : PySem.W.nsIn K mainGlobals "PAIR" = some (some (Value.int (2) tPAIR_1))) (z_MOST_LETTERS : PySem.W.nsIn K mainGlobals "MOST_LETTERS" = some (some (Value.int (8) tMOST_LETTERS_1))) (z_WORDS : PySem.W.nsIn K mainGlobals "WORDS" = some (some (Value.ref aWORDS_1))) (y_WORDS_1 : K.lookup aWORDS_1 = some ⟨.type "tuple", dWORDS_1, .seq [(Value.str "and" tWORDS_2), (Value.str "or" tWORDS_3)].toArray nWORDS_1, slWORDS_1⟩) (z_SMALL : PySem.W.nsIn K mainGlobals "SMALL" = some (some (Value.str "abcdefghijklmnopqrstuvwxyz" tSMALL_1))) (z_LEAST : PySem.W.nsIn K mainGlobals "LEAST" = some (some (Value.int (-9999) tLEAST_1))) (z_GREATEST : PySem.W.nsIn K mainGlobals "GREATEST" = some (some (Value.int (9999) tGREATEST_1))) (z_MOST_PAIRS : PySem.W.nsIn K mainGlobals "MOST_PAIRS" = some (some (Value.int (4) tMOST_PAIRS_1))) (z_CONDITION : PySem.W.nsIn K mainGlobals "CONDITION" = some (some (Value.str "condition" tCONDITION_1))) (z_JOINED : PySem.W.nsIn K mainGlobals "JOINED" = some (some (Value.str "joined" tJOINED_1))) (z_NEGATED : PySem.W.nsIn K mainGlobals "NEGATED" = some (some (Value.str "negated" tNEGATED_1))) (z_BETWEEN : PySem.W.nsIn K mainGlobals "BETWEEN" = some (some (Value.str ".." tBETWEEN_1))) (z_MISSING : PySem.W.nsIn K mainGlobals "MISSING" = some (some (Value.str "?" tMISSING_1))) (z_NOTHING : PySem.W.nsIn K mainGlobals "NOTHING" = some (some (Value.str "-" tNOTHING_1))) (z_MOST_COLUMNS : PySem.W.nsIn K mainGlobals "MOST_COLUMNS" = some (some (Value.int (8) tMOST_COLUMNS_1))) (ra_BadColumn : Raiser l.prog K mg "BadColumn" "value") (ra_BadRanges : Raiser l.prog K mg "BadRanges" "value") (ra_BadFlag : Raiser l.prog K mg "BadFlag" "value") (ca_FactsError : Catcher K mg "FactsError" errs) (er : ErrK K errs) (ca_BadColumn : Catcher K mg "BadColumn" errs) (ca_BadRanges : Catcher K mg "BadRanges" errs) (ca_BadFlag : Catcher K mg "BadFlag" errs) (ca_ValueError : Catcher K mg "ValueError" errs) (hcd : cd33 = .ref cA) (hnm : TabN.nm PA = some "_law_right.<locals>.<lambda>") :
    ∃ fd : FuncData, (∀ (s : Shared) (v : Value), BindsTo s fd ⟨[v], []⟩ [("_law_script", v)]) ∧ ∀ base : Heap, K.In base → base.Ns mainGlobals mg → LamX.TabB base mg cA PA → FnG l.prog w K mg base CX0 10 fa fd ["_law_script"] (spOf K 1 C_law) := by
  have e := hfa.symm.trans (PySem.W.mg_of X G a34)
  cases e
  have m_int := PySem.W.mg_none_of X G z_int
  have m_isinstance := PySem.W.mg_none_of X G z_isinstance
  have m_bool := PySem.W.mg_none_of X G z_bool
  have m_tuple := PySem.W.mg_none_of X G z_tuple
  have m_len := PySem.W.mg_none_of X G z_len
  have m_all := PySem.W.mg_none_of X G z_all
  have m_zip := PySem.W.mg_none_of X G z_zip
  have m_sorted := PySem.W.mg_none_of X G z_sorted
  have m_max := PySem.W.mg_none_of X G z_max
  have m_min := PySem.W.mg_none_of X G z_min
  have m_str := PySem.W.mg_none_of X G z_str
  have m_abs := PySem.W.mg_none_of X G z_abs
  have m_range := PySem.W.mg_none_of X G z_range
  have m_repr := PySem.W.mg_none_of X G z_repr
  have m_any := PySem.W.mg_none_of X G z_any
  have g_PAIR : GlobD K mg "PAIR" k_PAIR := ⟨_, (.int (2)), PySem.W.mg_of X G z_PAIR, ⟨_, rfl⟩, fun _ _ => (.int (2))⟩
  have g_MOST_LETTERS : GlobD K mg "MOST_LETTERS" k_MOST_LETTERS := ⟨_, (.int (8)), PySem.W.mg_of X G z_MOST_LETTERS, ⟨_, rfl⟩, fun _ _ => (.int (8))⟩
  have g_WORDS : GlobD K mg "WORDS" k_WORDS := ⟨_, (.ref aWORDS_1), PySem.W.mg_of X G z_WORDS, rfl, fun _ _ => (repK_tup (vs := [(.str "and"), (.str "or")]) y_WORDS_1 (.cons ⟨_, rfl⟩ (.cons ⟨_, rfl⟩ .nil)) (by show 2 ≤ sizeLine; decide) (.cons (.str "and") (.cons (.str "or") .nil)))⟩
  have g_SMALL : GlobD K mg "SMALL" k_SMALL := ⟨_, (.str "abcdefghijklmnopqrstuvwxyz"), PySem.W.mg_of X G z_SMALL, ⟨_, rfl⟩, fun _ _ => (.str "abcdefghijklmnopqrstuvwxyz")⟩
  have g_LEAST : GlobD K mg "LEAST" k_LEAST_conditions := ⟨_, (.int (-9999)), PySem.W.mg_of X G z_LEAST, ⟨_, rfl⟩, fun _ _ => (.int (-9999))⟩
  have g_GREATEST : GlobD K mg "GREATEST" k_GREATEST_conditions := ⟨_, (.int (9999)), PySem.W.mg_of X G z_GREATEST, ⟨_, rfl⟩, fun _ _ => (.int (9999))⟩
  have g_MOST_PAIRS : GlobD K mg "MOST_PAIRS" k_MOST_PAIRS := ⟨_, (.int (4)), PySem.W.mg_of X G z_MOST_PAIRS, ⟨_, rfl⟩, fun _ _ => (.int (4))⟩
  have g_CONDITION : GlobD K mg "CONDITION" k_CONDITION := ⟨_, (.str "condition"), PySem.W.mg_of X G z_CONDITION, ⟨_, rfl⟩, fun _ _ => (.str "condition")⟩
  have g_JOINED : GlobD K mg "JOINED" k_JOINED := ⟨_, (.str "joined"), PySem.W.mg_of X G z_JOINED, ⟨_, rfl⟩, fun _ _ => (.str "joined")⟩
  have g_NEGATED : GlobD K mg "NEGATED" k_NEGATED := ⟨_, (.str "negated"), PySem.W.mg_of X G z_NEGATED, ⟨_, rfl⟩, fun _ _ => (.str "negated")⟩
  have g_BETWEEN : GlobD K mg "BETWEEN" k_BETWEEN := ⟨_, (.str ".."), PySem.W.mg_of X G z_BETWEEN, ⟨_, rfl⟩, fun _ _ => (.str "..")⟩
  have g_MISSING : GlobD K mg "MISSING" k_MISSING := ⟨_, (.str "?"), PySem.W.mg_of X G z_MISSING, ⟨_, rfl⟩, fun _ _ => (.str "?")⟩
  have g_NOTHING : GlobD K mg "NOTHING" k_NOTHING_question_text := ⟨_, (.str "-"), PySem.W.mg_of X G z_NOTHING, ⟨_, rfl⟩, fun _ _ => (.str "-")⟩
  have g_MOST_COLUMNS : GlobD K mg "MOST_COLUMNS" k_MOST_COLUMNS8 := ⟨_, (.int (8)), PySem.W.mg_of X G z_MOST_COLUMNS, ⟨_, rfl⟩, fun _ _ => (.int (8))⟩
  have cls_Question : Cls K C_Question := ⟨pg_Question, hd_Question, po_Question, sa_Question⟩
  have hF_Question_tree : ObjF K "Question" "tree" := fun C h => by cases clsAt_inj h aC_Question; exact ⟨cls_Question, na_tree_Question⟩
  have hF_Question_column_list : ObjF K "Question" "column_list" := fun C h => by cases clsAt_inj h aC_Question; exact ⟨cls_Question, na_column_list_Question⟩
  have hF_Question_string : ObjF K "Question" "string" := fun C h => by cases clsAt_inj h aC_Question; exact ⟨cls_Question, na_string_Question⟩
  have F0 := fun_mk (st := s_is_integer) l0 c0 k0
  have F1 := fun_mk (st := s_is_pair) l1 c1 k1
  have F2 := fun_mk (st := s_is_ranges) l2 c2 k2
  have F3 := fun_mk (st := s_united) l3 c3 k3
  have F4 := fun_mk (st := s_both) l4 c4 k4
  have F5 := fun_mk (st := s_either) l5 c5 k5
  have F6 := fun_mk (st := s_gaps) l6 c6 k6
  have F7 := fun_mk (st := s_without) l7 c7 k7
  have F8 := fun_mk (st := s_is_column) l8 c8 k8
  have F9 := fun_mk (st := s_are_within) l9 c9 k9
  have F10 := fun_mk (st := s_is_taken_set) l10 c10 k10
  have F11 := fun_mk (st := s_columns_in) l11 c11 k11
  have F12 := fun_mk (st := s_widest_in) l12 c12 k12
  have F13 := fun_mk (st := s_settled) l13 c13 k13
  have F14 := fun_mk (st := s_pair_text) l14 c14 k14
  have F15 := fun_mk (st := s_condition_text) l15 c15 k15
  have F16 := fun_mk (st := s_tree_text) l16 c16 k16
  have F17 := fun_mk (st := s_Question___init__) l17 c17 k17
  have F18 := fun_mk (st := s_Question_columns) l18 c18 k18
  have F19 := fun_mk (st := s_where) l19 c19 k19
  have F20 := fun_mk (st := s__law_pot) l20 c20 k20
  have F21 := fun_mk (st := s__law_draw) l21 c21 k21
  have F22 := fun_mk (st := s__law_any) l22 c22 k22
  have F23 := fun_mk (st := s__law_odd) l23 c23 k23
  have F24 := fun_mk (st := s__law_spans) l24 c24 k24
  have F25 := fun_mk (st := s__law_is_integer) l25 c25 k25
  have F26 := fun_mk (st := s__law_is_set) l26 c26 k26
  have F27 := fun_mk (st := s__law_is_name) l27 c27 k27
  have F28 := fun_mk (st := s__law_con_text) l28 c28 k28
  have F29 := fun_mk (st := s__law_met) l29 c29 k29
  have F30 := fun_mk (st := s__law_three) l30 c30 k30
  have F31 := fun_mk (st := s__law_due) l31 c31 k31
  have F32 := fun_mk (st := s__law_shown) l32 c32 k32
  have F33 := fun_mk (st := s__law_right) l33 c33 k33
  have F34 := fun_mk (st := s_law) l34 c34 k34
  refine ⟨PySem.W.fnOf "law" "law" (defArgs s_law) (defBody s_law) (defScope s_law) .none kV34 dc34 pm34 an34 cd34 ct34, fun s v => .of_eq rfl, fun base _ _ hTB => ?_⟩
  have G0 := fn_is_integer (P := l.prog) (w := w) (mg := mg) (base := base) F0 m_int m_isinstance m_bool
  have c_is_integer : Callee l.prog w K mg base 1 "is_integer" ["value"] C_is_integer := ⟨_, _, G0, PySem.W.mg_of X G a0, F0.kp, F0.binds fun _ _ _ _ _ _ us hl => match us, hl with | [_], _ => rfl⟩
  have G3 := fn_united (P := l.prog) (w := w) (mg := mg) (base := base) F3 m_sorted m_max m_tuple
  have c_united : Callee l.prog w K mg base 1 "united" ["pairs"] C_united := ⟨_, _, G3, PySem.W.mg_of X G a3, F3.kp, F3.binds fun _ _ _ _ _ _ us hl => match us, hl with | [_], _ => rfl⟩
  have G4 := fn_both (P := l.prog) (w := w) (mg := mg) (base := base) F4 m_len m_max m_min m_tuple
  have c_both : Callee l.prog w K mg base 1 "both" ["one", "other"] C_both := ⟨_, _, G4, PySem.W.mg_of X G a4, F4.kp, F4.binds fun _ _ _ _ _ _ us hl => match us, hl with | [_, _], _ => rfl⟩
  have G8 := fn_is_column (P := l.prog) (w := w) (mg := mg) (base := base) F8 m_str m_isinstance m_len m_all g_MOST_LETTERS g_WORDS g_SMALL
  have c_is_column : Callee l.prog w K mg base 1 "is_column" ["value"] C_is_column := ⟨_, _, G8, PySem.W.mg_of X G a8, F8.kp, F8.binds fun _ _ _ _ _ _ us hl => match us, hl with | [_], _ => rfl⟩
  have G9 := fn_are_within (P := l.prog) (w := w) (mg := mg) (base := base) F9 g_LEAST g_GREATEST
  have c_are_within : Callee l.prog w K mg base 1 "are_within" ["ranges"] C_are_within := ⟨_, _, G9, PySem.W.mg_of X G a9, F9.kp, F9.binds fun _ _ _ _ _ _ us hl => match us, hl with | [_], _ => rfl⟩
  have G11 := fn_columns_in (P := l.prog) (w := w) (mg := mg) (base := base) F11 g_CONDITION
  have c_columns_in : Callee l.prog w K mg base 1 "columns_in" ["tree"] C_columns_in := ⟨_, _, G11, PySem.W.mg_of X G a11, F11.kp, F11.binds fun _ _ _ _ _ _ us hl => match us, hl with | [_], _ => rfl⟩
  have G12 := fn_widest_in (P := l.prog) (w := w) (mg := mg) (base := base) F12 m_len g_CONDITION
  have c_widest_in : Callee l.prog w K mg base 1 "widest_in" ["tree"] C_widest_in := ⟨_, _, G12, PySem.W.mg_of X G a12, F12.kp, F12.binds fun _ _ _ _ _ _ us hl => match us, hl with | [_], _ => rfl⟩
  have G13 := fn_settled (P := l.prog) (w := w) (mg := mg) (base := base) F13 g_JOINED g_NEGATED
  have c_settled : Callee l.prog w K mg base 1 "settled" ["tree"] C_settled := ⟨_, _, G13, PySem.W.mg_of X G a13, F13.kp, F13.binds fun _ _ _ _ _ _ us hl => match us, hl with | [_], _ => rfl⟩
  have G14 := fn_pair_text (P := l.prog) (w := w) (mg := mg) (base := base) F14 m_str g_BETWEEN
  have c_pair_text : Callee l.prog w K mg base 1 "pair_text" ["low", "high"] C_pair_text := ⟨_, _, G14, PySem.W.mg_of X G a14, F14.kp, F14.binds fun _ _ _ _ _ _ us hl => match us, hl with | [_, _], _ => rfl⟩
  have G18 := fn_Question_columns (P := l.prog) (w := w) (mg := mg) (base := base) F18 m_tuple hF_Question_column_list
  have pr_Question_columns : PropG l.prog w K mg base 1 "Question" "columns" C_Question_columns := ⟨fun C h => by cases clsAt_inj h aC_Question; exact ⟨p18, f18, _, ["self"], cls_Question, ⟨a18, g18, t18, ⟨_, r18⟩⟩, G18, F18.binds fun _ _ _ _ _ _ us hl => match us, hl with | [_], _ => rfl⟩⟩
  have G20 := fn__law_pot (P := l.prog) (w := w) (mg := mg) (base := base) F20 m_len m_abs m_int
  have c__law_pot : Callee l.prog w K mg base 1 "_law_pot" ["_law_script", "_law_k"] C__law_pot := ⟨_, _, G20, PySem.W.mg_of X G a20, F20.kp, F20.binds fun _ _ _ _ _ _ us hl => match us, hl with | [_, _], _ => rfl⟩
  have G21 := fn__law_draw (P := l.prog) (w := w) (mg := mg) (base := base) F21 m_int
  have c__law_draw : Callee l.prog w K mg base 1 "_law_draw" ["_law_pot_here", "_law_many"] C__law_draw := ⟨_, _, G21, PySem.W.mg_of X G a21, F21.kp, F21.binds fun _ _ _ _ _ _ us hl => match us, hl with | [_, _], _ => rfl⟩
  have G25 := fn__law_is_integer (P := l.prog) (w := w) (mg := mg) (base := base) F25 m_int m_isinstance m_bool
  have c__law_is_integer : Callee l.prog w K mg base 1 "_law_is_integer" ["_law_thing"] C__law_is_integer := ⟨_, _, G25, PySem.W.mg_of X G a25, F25.kp, F25.binds fun _ _ _ _ _ _ us hl => match us, hl with | [_], _ => rfl⟩
  have G27 := fn__law_is_name (P := l.prog) (w := w) (mg := mg) (base := base) F27 m_str m_isinstance m_len m_all
  have c__law_is_name : Callee l.prog w K mg base 1 "_law_is_name" ["_law_thing"] C__law_is_name := ⟨_, _, G27, PySem.W.mg_of X G a27, F27.kp, F27.binds fun _ _ _ _ _ _ us hl => match us, hl with | [_], _ => rfl⟩
  have G28 := fn__law_con_text (P := l.prog) (w := w) (mg := mg) (base := base) F28 m_str m_int
  have c__law_con_text : Callee l.prog w K mg base 1 "_law_con_text" ["_law_tree"] C__law_con_text := ⟨_, _, G28, PySem.W.mg_of X G a28, F28.kp, F28.binds fun _ _ _ _ _ _ us hl => match us, hl with | [_], _ => rfl⟩
  have G1 := fn_is_pair (P := l.prog) (w := w) (mg := mg) (base := base) F1 m_tuple m_isinstance m_len g_PAIR c_is_integer
  have c_is_pair : Callee l.prog w K mg base 2 "is_pair" ["value"] C_is_pair := ⟨_, _, G1, PySem.W.mg_of X G a1, F1.kp, F1.binds fun _ _ _ _ _ _ us hl => match us, hl with | [_], _ => rfl⟩
  have G5 := fn_either (P := l.prog) (w := w) (mg := mg) (base := base) F5 c_united
  have c_either : Callee l.prog w K mg base 2 "either" ["one", "other"] C_either := ⟨_, _, G5, PySem.W.mg_of X G a5, F5.kp, F5.binds fun _ _ _ _ _ _ us hl => match us, hl with | [_, _], _ => rfl⟩
  have G6 := fn_gaps (P := l.prog) (w := w) (mg := mg) (base := base) F6 m_max c_both c_united
  have c_gaps : Callee l.prog w K mg base 2 "gaps" ["ranges", "low", "high"] C_gaps := ⟨_, _, G6, PySem.W.mg_of X G a6, F6.kp, F6.binds fun _ _ _ _ _ _ us hl => match us, hl with | [_, _, _], _ => rfl⟩
  have G15 := fn_condition_text (P := l.prog) (w := w) (mg := mg) (base := base) F15 g_MISSING g_NOTHING c_pair_text
  have c_condition_text : Callee l.prog w K mg base 2 "condition_text" ["tree"] C_condition_text := ⟨_, _, G15, PySem.W.mg_of X G a15, F15.kp, F15.binds fun _ _ _ _ _ _ us hl => match us, hl with | [_], _ => rfl⟩
  have G22 := fn__law_any (P := l.prog) (w := w) (mg := mg) (base := base) F22 m_len c__law_draw
  have c__law_any : Callee l.prog w K mg base 2 "_law_any" ["_law_pot_here", "_law_items"] C__law_any := ⟨_, _, G22, PySem.W.mg_of X G a22, F22.kp, F22.binds fun _ _ _ _ _ _ us hl => match us, hl with | [_, _], _ => rfl⟩
  have G26 := fn__law_is_set (P := l.prog) (w := w) (mg := mg) (base := base) F26 m_tuple m_isinstance m_len m_all m_range c__law_is_integer
  have c__law_is_set : Callee l.prog w K mg base 2 "_law_is_set" ["_law_thing"] C__law_is_set := ⟨_, _, G26, PySem.W.mg_of X G a26, F26.kp, F26.binds fun _ _ _ _ _ _ us hl => match us, hl with | [_], _ => rfl⟩
  have G2 := fn_is_ranges (P := l.prog) (w := w) (mg := mg) (base := base) F2 m_tuple m_isinstance m_all m_zip c_is_pair
  have c_is_ranges : Callee l.prog w K mg base 3 "is_ranges" ["value"] C_is_ranges := ⟨_, _, G2, PySem.W.mg_of X G a2, F2.kp, F2.binds fun _ _ _ _ _ _ us hl => match us, hl with | [_], _ => rfl⟩
  have G7 := fn_without (P := l.prog) (w := w) (mg := mg) (base := base) F7 c_both c_gaps
  have c_without : Callee l.prog w K mg base 3 "without" ["one", "other"] C_without := ⟨_, _, G7, PySem.W.mg_of X G a7, F7.kp, F7.binds fun _ _ _ _ _ _ us hl => match us, hl with | [_, _], _ => rfl⟩
  have G16 := fn_tree_text (P := l.prog) (w := w) (mg := mg) (base := base) F16 g_CONDITION c_condition_text
  have c_tree_text : Callee l.prog w K mg base 3 "tree_text" ["tree"] C_tree_text := ⟨_, _, G16, PySem.W.mg_of X G a16, F16.kp, F16.binds fun _ _ _ _ _ _ us hl => match us, hl with | [_], _ => rfl⟩
  have G23 := fn__law_odd (P := l.prog) (w := w) (mg := mg) (base := base) F23 m_range c__law_any
  have c__law_odd : Callee l.prog w K mg base 3 "_law_odd" ["_law_pot_here"] C__law_odd := ⟨_, _, G23, PySem.W.mg_of X G a23, F23.kp, F23.binds fun _ _ _ _ _ _ us hl => match us, hl with | [_], _ => rfl⟩
  have G24 := fn__law_spans (P := l.prog) (w := w) (mg := mg) (base := base) F24 m_range m_tuple c__law_draw c__law_any
  have c__law_spans : Callee l.prog w K mg base 3 "_law_spans" ["_law_pot_here", "_law_most", "_law_low", "_law_high"] C__law_spans := ⟨_, _, G24, PySem.W.mg_of X G a24, F24.kp, F24.binds fun _ _ _ _ _ _ us hl => match us, hl with | [_, _, _, _], _ => rfl⟩
  have G31 := fn__law_due (P := l.prog) (w := w) (mg := mg) (base := base) F31 m_repr m_len m_any m_bool m_isinstance c__law_is_name c__law_is_set c__law_con_text
  have c__law_due : Callee l.prog w K mg base 3 "_law_due" ["_law_name", "_law_spans_here", "_law_bare"] C__law_due := ⟨_, _, G31, PySem.W.mg_of X G a31, F31.kp, F31.binds fun _ _ _ _ _ _ us hl => match us, hl with | [_, _, _], _ => rfl⟩
  have G32 := fn__law_shown (P := l.prog) (w := w) (mg := mg) (base := base) F32 pr_Question_columns hF_Question_string
  have c__law_shown : Callee l.prog w K mg base 3 "_law_shown" ["_law_told", "_law_name"] C__law_shown := ⟨_, _, G32, PySem.W.mg_of X G a32, F32.kp, F32.binds fun _ _ _ _ _ _ us hl => match us, hl with | [_, _], _ => rfl⟩
  have G10 := fn_is_taken_set (P := l.prog) (w := w) (mg := mg) (base := base) F10 m_len g_MOST_PAIRS c_is_ranges c_are_within
  have c_is_taken_set : Callee l.prog w K mg base 4 "is_taken_set" ["value"] C_is_taken_set := ⟨_, _, G10, PySem.W.mg_of X G a10, F10.kp, F10.binds fun _ _ _ _ _ _ us hl => match us, hl with | [_], _ => rfl⟩
  have G17 := fn_Question___init__ (P := l.prog) (w := w) (mg := mg) (base := base) F17 m_sorted m_zip m_len g_MOST_COLUMNS g_MOST_PAIRS c_settled c_columns_in c_widest_in c_tree_text hF_Question_tree hF_Question_column_list hF_Question_string
  have mk_Question : Maker l.prog w K mg base 4 "Question" ["self", "tree"] C_Question___init__ := ⟨C_Question, f17, _, PySem.W.mg_of X G aC_Question, aC_Question, ⟨ms_Question, a17, n17, kc_Question⟩, G17, F17.binds fun _ _ _ _ _ _ us hl => match us, hl with | [_, _], _ => rfl⟩
  have G30 := fn__law_three (P := l.prog) (w := w) (mg := mg) (base := base) F30 c__law_any c__law_spans c__law_draw c__law_odd
  have c__law_three : Callee l.prog w K mg base 4 "_law_three" ["_law_pot_here"] C__law_three := ⟨_, _, G30, PySem.W.mg_of X G a30, F30.kp, F30.binds fun _ _ _ _ _ _ us hl => match us, hl with | [_], _ => rfl⟩
  have GX19 := fx_where (P := l.prog) (w := w) (mg := mg) (base := base) F19 m_bool m_isinstance g_CONDITION c_is_column c_is_taken_set ra_BadColumn ra_BadRanges ra_BadFlag mk_Question
  have xn_where_missing : CalleeXN l.prog w K mg base 6 "where" ["column", "ranges", "missing"] 2 ["missing"] X_where := ⟨_, _, GX19, PySem.W.mg_of X G a19, F19.kp, fun s us ws hK h1 h2 => match us, ws, h1, h2 with | [_, _], [_], _, _ => .of_eq rfl⟩
  have xk_where_2_1_0 : CalleeXK l.prog w K mg base 6 "where" ["column", "ranges", "missing"] ["missing", "ranges", "column"] [2, 1, 0] X_where := ⟨_, _, GX19, PySem.W.mg_of X G a19, F19.kp, ⟨fun s ws hK hl => match ws, hl with | [_, _, _], _ => .of_eq rfl, by decide⟩⟩
  have xd_where : CalleeXD l.prog w K mg base 6 "where" ["column", "ranges", "missing"] (.bl false) X_where := ⟨_, _, .bl false, .bool false, GX19, PySem.W.mg_of X G a19, F19.kp, fun _ _ => .bl false, .cons rfl .nil, bindsD1 e19 fun us hl => match us, hl with | [_, _], _ => ⟨_, _, _, _, _, _, rfl, rfl, rfl⟩⟩
  have l__law_met := gl__law_met (P := l.prog) (w := w) (mg := mg) (base := base) F29 (PySem.W.mg_of X G a29) F29.kp (F29.binds fun _ _ _ _ _ _ us hl => match us, hl with | [_], _ => rfl) m_isinstance m_repr ca_FactsError er ca_BadColumn ca_BadRanges ca_BadFlag ca_ValueError
  have G33 := fn__law_right (P := l.prog) (w := w) (mg := mg) (base := base) F33 hTB hcd hnm m_range m_repr c__law_three c__law_due c__law_shown xn_where_missing l__law_met xk_where_2_1_0 xd_where
  have c__law_right : Callee l.prog w K mg base 9 "_law_right" ["_law_pot_here"] C__law_right := ⟨_, _, G33, PySem.W.mg_of X G a33, F33.kp, F33.binds fun _ _ _ _ _ _ us hl => match us, hl with | [_], _ => rfl⟩
  have G34 := fn_law (P := l.prog) (w := w) (mg := mg) (base := base) F34 m_len m_min m_max m_range c__law_right c__law_pot
  exact G34
set_option maxHeartbeats 0 in
theorem hall [TabN] {w : World} {K : PySem.W.Frag} {h : Heap} {mg : Str → Option Value} {fa PA : Addr} (X : K.In h) (G : h.Ns mainGlobals mg) (hfa : mg "law" = some (.ref fa)) (hc0 : Hd.seenX fs fn xsL K = Hd.dueX fn xsL) (hcb : Hd.cdB K (mkA K) = true) (hnm : TabN.nm PA = some "_law_right.<locals>.<lambda>") :
    ∃ fd : FuncData, (∀ (s : Shared) (v : Value), BindsTo s fd ⟨[v], []⟩ [("_law_script", v)]) ∧ ∀ base : Heap, K.In base → base.Ns mainGlobals mg → LamX.TabB base mg (Hd.cdA K (mkA K)) PA → FnG PySem.Challenge.rw_piecefacts_k05_conditions_of_any_values.prog w K mg base CX0 10 fa fd ["_law_script"] (spOf K 1 C_law) := by
  obtain ⟨c, hcx⟩ := Hd.seenX_ok hc0
  obtain ⟨oc0, od0, sl0, kV0, dc0, pm0, an0, cd0, ct0, l0, c0, k0⟩ := Hd.fdef (d := d0) c 0
  obtain ⟨oc1, od1, sl1, kV1, dc1, pm1, an1, cd1, ct1, l1, c1, k1⟩ := Hd.fdef (d := d1) c 1
  obtain ⟨oc2, od2, sl2, kV2, dc2, pm2, an2, cd2, ct2, l2, c2, k2⟩ := Hd.fdef (d := d2) c 2
  obtain ⟨oc3, od3, sl3, kV3, dc3, pm3, an3, cd3, ct3, l3, c3, k3⟩ := Hd.fdef (d := d3) c 3
  obtain ⟨oc4, od4, sl4, kV4, dc4, pm4, an4, cd4, ct4, l4, c4, k4⟩ := Hd.fdef (d := d4) c 4
  obtain ⟨oc5, od5, sl5, kV5, dc5, pm5, an5, cd5, ct5, l5, c5, k5⟩ := Hd.fdef (d := d5) c 5
  obtain ⟨oc6, od6, sl6, kV6, dc6, pm6, an6, cd6, ct6, l6, c6, k6⟩ := Hd.fdef (d := d6) c 6
  obtain ⟨oc7, od7, sl7, kV7, dc7, pm7, an7, cd7, ct7, l7, c7, k7⟩ := Hd.fdef (d := d7) c 7
  obtain ⟨oc8, od8, sl8, kV8, dc8, pm8, an8, cd8, ct8, l8, c8, k8⟩ := Hd.fdef (d := d8) c 8
  obtain ⟨oc9, od9, sl9, kV9, dc9, pm9, an9, cd9, ct9, l9, c9, k9⟩ := Hd.fdef (d := d9) c 9
  obtain ⟨oc10, od10, sl10, kV10, dc10, pm10, an10, cd10, ct10, l10, c10, k10⟩ := Hd.fdef (d := d10) c 10
  obtain ⟨oc11, od11, sl11, kV11, dc11, pm11, an11, cd11, ct11, l11, c11, k11⟩ := Hd.fdef (d := d11) c 11
  obtain ⟨oc12, od12, sl12, kV12, dc12, pm12, an12, cd12, ct12, l12, c12, k12⟩ := Hd.fdef (d := d12) c 12
  obtain ⟨oc13, od13, sl13, kV13, dc13, pm13, an13, cd13, ct13, l13, c13, k13⟩ := Hd.fdef (d := d13) c 13
  obtain ⟨oc14, od14, sl14, kV14, dc14, pm14, an14, cd14, ct14, l14, c14, k14⟩ := Hd.fdef (d := d14) c 14
  obtain ⟨oc15, od15, sl15, kV15, dc15, pm15, an15, cd15, ct15, l15, c15, k15⟩ := Hd.fdef (d := d15) c 15
  obtain ⟨oc16, od16, sl16, kV16, dc16, pm16, an16, cd16, ct16, l16, c16, k16⟩ := Hd.fdef (d := d16) c 16
  obtain ⟨pa17, pb17⟩ := He.ba (show Hd.mth "Question" "__init__" K = true from Hd.fact c 28)
  obtain ⟨oc17, od17, sl17, kV17, dc17, pm17, an17, cd17, ct17, l17, c17, k17⟩ := Hd.fdef (d := d17) c 17
  obtain ⟨pa18, pb18⟩ := He.ba (show Hd.prp "Question" "columns" K = true from Hd.fact c 29)
  obtain ⟨pc18, pd18⟩ := He.ba pb18
  obtain ⟨pe18, pf18⟩ := He.ba pd18
  obtain ⟨oc18, od18, sl18, kV18, dc18, pm18, an18, cd18, ct18, l18, c18, k18⟩ := Hd.fdef (d := d18) c 18
  obtain ⟨oc19, od19, sl19, kV19, dc19, pm19, an19, cd19, ct19, l19, c19, k19⟩ := Hd.fdef (d := d19) c 19
  obtain ⟨Dk19, ek19, e19⟩ := Hd.dk_ok l19 (show Hd.dkB (fun K => He.ga K "where") "missing" (.bool false) K = true from Hd.fact c 31)
  subst ek19
  obtain ⟨oc20, od20, sl20, kV20, dc20, pm20, an20, cd20, ct20, l20, c20, k20⟩ := Hd.fdef (d := d20) c 20
  obtain ⟨oc21, od21, sl21, kV21, dc21, pm21, an21, cd21, ct21, l21, c21, k21⟩ := Hd.fdef (d := d21) c 21
  obtain ⟨oc22, od22, sl22, kV22, dc22, pm22, an22, cd22, ct22, l22, c22, k22⟩ := Hd.fdef (d := d22) c 22
  obtain ⟨oc23, od23, sl23, kV23, dc23, pm23, an23, cd23, ct23, l23, c23, k23⟩ := Hd.fdef (d := d23) c 23
  obtain ⟨oc24, od24, sl24, kV24, dc24, pm24, an24, cd24, ct24, l24, c24, k24⟩ := Hd.fdef (d := d24) c 24
  obtain ⟨oc25, od25, sl25, kV25, dc25, pm25, an25, cd25, ct25, l25, c25, k25⟩ := Hd.fdef (d := d25) c 25
  obtain ⟨oc26, od26, sl26, kV26, dc26, pm26, an26, cd26, ct26, l26, c26, k26⟩ := Hd.fdef (d := d26) c 26
  obtain ⟨oc27, od27, sl27, kV27, dc27, pm27, an27, cd27, ct27, l27, c27, k27⟩ := Hd.fdef (d := d27) c 27
  obtain ⟨oc28, od28, sl28, kV28, dc28, pm28, an28, cd28, ct28, l28, c28, k28⟩ := Hd.fdef (d := d28) c 28
  obtain ⟨oc29, od29, sl29, kV29, dc29, pm29, an29, cd29, ct29, l29, c29, k29⟩ := Hd.fdef (d := d29) c 29
  obtain ⟨oc30, od30, sl30, kV30, dc30, pm30, an30, cd30, ct30, l30, c30, k30⟩ := Hd.fdef (d := d30) c 30
  obtain ⟨oc31, od31, sl31, kV31, dc31, pm31, an31, cd31, ct31, l31, c31, k31⟩ := Hd.fdef (d := d31) c 31
  obtain ⟨oc32, od32, sl32, kV32, dc32, pm32, an32, cd32, ct32, l32, c32, k32⟩ := Hd.fdef (d := d32) c 32
  obtain ⟨oc33, od33, sl33, kV33, dc33, pm33, an33, cd33, ct33, l33, c33, k33⟩ := Hd.fdef (d := d33) c 33
  obtain ⟨oc34, od34, sl34, kV34, dc34, pm34, an34, cd34, ct34, l34, c34, k34⟩ := Hd.fdef (d := d34) c 34
  obtain ⟨v_PAIR, z_PAIR, h_PAIR⟩ := Hd.cst_ok (show Hd.cst "PAIR" (.int (2)) K = true from Hd.fact c 62)
  obtain ⟨t_PAIR_1, rfl⟩ := Hd.pt_int h_PAIR
  obtain ⟨v_MOST_LETTERS, z_MOST_LETTERS, h_MOST_LETTERS⟩ := Hd.cst_ok (show Hd.cst "MOST_LETTERS" (.int (8)) K = true from Hd.fact c 63)
  obtain ⟨t_MOST_LETTERS_1, rfl⟩ := Hd.pt_int h_MOST_LETTERS
  obtain ⟨v_WORDS, z_WORDS, h_WORDS⟩ := Hd.cst_ok (show Hd.cst "WORDS" (.tup [(.str "and"), (.str "or")]) K = true from Hd.fact c 64)
  obtain ⟨a_WORDS_1, d_WORDS_1, vs_WORDS_1, n_WORDS_1, sl_WORDS_1, rfl, y_WORDS_1, h_WORDS_1⟩ := Hd.pt_tup h_WORDS
  obtain ⟨v_WORDS_1_0, r_WORDS_1_0, rfl, h_WORDS_1_0, q_WORDS_1_0⟩ := Hd.pts_cons h_WORDS_1
  obtain ⟨v_WORDS_1_1, r_WORDS_1_1, rfl, h_WORDS_1_1, q_WORDS_1_1⟩ := Hd.pts_cons q_WORDS_1_0
  cases Hd.pts_nil q_WORDS_1_1
  obtain ⟨t_WORDS_2, rfl⟩ := Hd.pt_str h_WORDS_1_0
  obtain ⟨t_WORDS_3, rfl⟩ := Hd.pt_str h_WORDS_1_1
  obtain ⟨v_SMALL, z_SMALL, h_SMALL⟩ := Hd.cst_ok (show Hd.cst "SMALL" (.str "abcdefghijklmnopqrstuvwxyz") K = true from Hd.fact c 65)
  obtain ⟨t_SMALL_1, rfl⟩ := Hd.pt_str h_SMALL
  obtain ⟨v_LEAST, z_LEAST, h_LEAST⟩ := Hd.cst_ok (show Hd.cst "LEAST" (.int (-9999)) K = true from Hd.fact c 66)
  obtain ⟨t_LEAST_1, rfl⟩ := Hd.pt_int h_LEAST
  obtain ⟨v_GREATEST, z_GREATEST, h_GREATEST⟩ := Hd.cst_ok (show Hd.cst "GREATEST" (.int (9999)) K = true from Hd.fact c 67)
  obtain ⟨t_GREATEST_1, rfl⟩ := Hd.pt_int h_GREATEST
  obtain ⟨v_MOST_PAIRS, z_MOST_PAIRS, h_MOST_PAIRS⟩ := Hd.cst_ok (show Hd.cst "MOST_PAIRS" (.int (4)) K = true from Hd.fact c 68)
  obtain ⟨t_MOST_PAIRS_1, rfl⟩ := Hd.pt_int h_MOST_PAIRS
  obtain ⟨v_CONDITION, z_CONDITION, h_CONDITION⟩ := Hd.cst_ok (show Hd.cst "CONDITION" (.str "condition") K = true from Hd.fact c 69)
  obtain ⟨t_CONDITION_1, rfl⟩ := Hd.pt_str h_CONDITION
  obtain ⟨v_JOINED, z_JOINED, h_JOINED⟩ := Hd.cst_ok (show Hd.cst "JOINED" (.str "joined") K = true from Hd.fact c 70)
  obtain ⟨t_JOINED_1, rfl⟩ := Hd.pt_str h_JOINED
  obtain ⟨v_NEGATED, z_NEGATED, h_NEGATED⟩ := Hd.cst_ok (show Hd.cst "NEGATED" (.str "negated") K = true from Hd.fact c 71)
  obtain ⟨t_NEGATED_1, rfl⟩ := Hd.pt_str h_NEGATED
  obtain ⟨v_BETWEEN, z_BETWEEN, h_BETWEEN⟩ := Hd.cst_ok (show Hd.cst "BETWEEN" (.str "..") K = true from Hd.fact c 72)
  obtain ⟨t_BETWEEN_1, rfl⟩ := Hd.pt_str h_BETWEEN
  obtain ⟨v_MISSING, z_MISSING, h_MISSING⟩ := Hd.cst_ok (show Hd.cst "MISSING" (.str "?") K = true from Hd.fact c 73)
  obtain ⟨t_MISSING_1, rfl⟩ := Hd.pt_str h_MISSING
  obtain ⟨v_NOTHING, z_NOTHING, h_NOTHING⟩ := Hd.cst_ok (show Hd.cst "NOTHING" (.str "-") K = true from Hd.fact c 74)
  obtain ⟨t_NOTHING_1, rfl⟩ := Hd.pt_str h_NOTHING
  obtain ⟨v_MOST_COLUMNS, z_MOST_COLUMNS, h_MOST_COLUMNS⟩ := Hd.cst_ok (show Hd.cst "MOST_COLUMNS" (.int (8)) K = true from Hd.fact c 75)
  obtain ⟨t_MOST_COLUMNS_1, rfl⟩ := Hd.pt_int h_MOST_COLUMNS
  obtain ⟨ra_BadColumn, es_BadColumn⟩ := Hd.sup_mk (P := PySem.Challenge.rw_piecefacts_k05_conditions_of_any_values.prog) X G (by kernel_rfl) bx_BadColumn (hcx x0 (by simp [xsL])) (show Hd.supB PySem.Challenge.rw_piecefacts_k05_conditions_of_any_values.prog.main.file "BadColumn" "value" "BadColumn.__init__" K = true from Hd.fact c 76)
  obtain ⟨ra_BadRanges, es_BadRanges⟩ := Hd.sup_mk (P := PySem.Challenge.rw_piecefacts_k05_conditions_of_any_values.prog) X G (by kernel_rfl) bx_BadRanges (hcx x1 (by simp [xsL])) (show Hd.supB PySem.Challenge.rw_piecefacts_k05_conditions_of_any_values.prog.main.file "BadRanges" "value" "BadRanges.__init__" K = true from Hd.fact c 77)
  obtain ⟨ra_BadFlag, es_BadFlag⟩ := Hd.sup_mk (P := PySem.Challenge.rw_piecefacts_k05_conditions_of_any_values.prog) X G (by kernel_rfl) bx_BadFlag (hcx x2 (by simp [xsL])) (show Hd.supB PySem.Challenge.rw_piecefacts_k05_conditions_of_any_values.prog.main.file "BadFlag" "value" "BadFlag.__init__" K = true from Hd.fact c 78)
  have ca_FactsError : Catcher K mg "FactsError" errs := Hd.cat_mk X G (show Hd.catB "FactsError" exl K = true from Hd.fact c 79)
  have er : ErrK K errs := ⟨fun p hp C hC => by
    simp only [errs, List.mem_cons, List.not_mem_nil, or_false] at hp
    rcases hp with rfl | rfl | rfl
    · exact es_BadColumn C hC
    · exact es_BadRanges C hC
    · exact es_BadFlag C hC⟩
  have ca_BadColumn : Catcher K mg "BadColumn" errs := Hd.cat_mk X G (show Hd.catB "BadColumn" exl K = true from Hd.fact c 80)
  have ca_BadRanges : Catcher K mg "BadRanges" errs := Hd.cat_mk X G (show Hd.catB "BadRanges" exl K = true from Hd.fact c 81)
  have ca_BadFlag : Catcher K mg "BadFlag" errs := Hd.cat_mk X G (show Hd.catB "BadFlag" exl K = true from Hd.fact c 82)
  have ca_ValueError : Catcher K mg "ValueError" errs := Hd.catT_mk X G rfl (by decide) (show Hd.catT "ValueError" "ValueError" exl K = true from Hd.fact c 83)
  exact all_mk (l := PySem.Challenge.rw_piecefacts_k05_conditions_of_any_values) X G hfa (He.eqO_ok (show Hd.glo "Question" K = true from Hd.fact c 0)) (show (fun K => PySem.W.plainGet K (He.ga K "Question") Str.empty) K = true from Hd.fact c 1) (show (fun K => PySem.W.hasDictIn K (He.ga K "Question")) K = true from Hd.fact c 2) (show (fun K => PySem.W.plainOver K (He.ga K "Question")) K = true from Hd.fact c 3) (He.eqO_ok (show Hd.fnd (fun K => He.ga K "Question") "__setattr__" (some (.builtin "object.__setattr__")) K = true from Hd.fact c 7)) (show (fun K => PySem.W.makesIn K (He.ga K "Question")) K = true from Hd.fact c 4) (show (fun K => PySem.W.keepIn K (.ref (He.ga K "Question"))) K = true from Hd.fact c 5) (show (fun K => PySem.W.selfFirst K (He.ga K "Question")) K = true from Hd.fact c 6) (He.eqO_ok (show Hd.fnd (fun K => He.ga K "Question") "tree" none K = true from Hd.fact c 8)) (He.eqO_ok (show Hd.fnd (fun K => He.ga K "Question") "column_list" none K = true from Hd.fact c 9)) (He.eqO_ok (show Hd.fnd (fun K => He.ga K "Question") "string" none K = true from Hd.fact c 10)) (He.eqO_ok (show Hd.glo "is_integer" K = true from Hd.fact c 11)) l0 c0 k0 (He.eqO_ok (show Hd.glo "is_pair" K = true from Hd.fact c 12)) l1 c1 k1 (He.eqO_ok (show Hd.glo "is_ranges" K = true from Hd.fact c 13)) l2 c2 k2 (He.eqO_ok (show Hd.glo "united" K = true from Hd.fact c 14)) l3 c3 k3 (He.eqO_ok (show Hd.glo "both" K = true from Hd.fact c 15)) l4 c4 k4 (He.eqO_ok (show Hd.glo "either" K = true from Hd.fact c 16)) l5 c5 k5 (He.eqO_ok (show Hd.glo "gaps" K = true from Hd.fact c 17)) l6 c6 k6 (He.eqO_ok (show Hd.glo "without" K = true from Hd.fact c 18)) l7 c7 k7 (He.eqO_ok (show Hd.glo "is_column" K = true from Hd.fact c 19)) l8 c8 k8 (He.eqO_ok (show Hd.glo "are_within" K = true from Hd.fact c 20)) l9 c9 k9 (He.eqO_ok (show Hd.glo "is_taken_set" K = true from Hd.fact c 21)) l10 c10 k10 (He.eqO_ok (show Hd.glo "columns_in" K = true from Hd.fact c 22)) l11 c11 k11 (He.eqO_ok (show Hd.glo "widest_in" K = true from Hd.fact c 23)) l12 c12 k12 (He.eqO_ok (show Hd.glo "settled" K = true from Hd.fact c 24)) l13 c13 k13 (He.eqO_ok (show Hd.glo "pair_text" K = true from Hd.fact c 25)) l14 c14 k14 (He.eqO_ok (show Hd.glo "condition_text" K = true from Hd.fact c 26)) l15 c15 k15 (He.eqO_ok (show Hd.glo "tree_text" K = true from Hd.fact c 27)) l16 c16 k16 (He.eqO_ok pa17) (pb17) l17 c17 k17 (He.eqO_ok pa18) (He.eqO_ok pc18) (of_decide_eq_true pe18) (Hd.rec_ok pf18) l18 c18 k18 (He.eqO_ok (show Hd.glo "where" K = true from Hd.fact c 30)) l19 c19 k19 e19 (He.eqO_ok (show Hd.glo "_law_pot" K = true from Hd.fact c 32)) l20 c20 k20 (He.eqO_ok (show Hd.glo "_law_draw" K = true from Hd.fact c 33)) l21 c21 k21 (He.eqO_ok (show Hd.glo "_law_any" K = true from Hd.fact c 34)) l22 c22 k22 (He.eqO_ok (show Hd.glo "_law_odd" K = true from Hd.fact c 35)) l23 c23 k23 (He.eqO_ok (show Hd.glo "_law_spans" K = true from Hd.fact c 36)) l24 c24 k24 (He.eqO_ok (show Hd.glo "_law_is_integer" K = true from Hd.fact c 37)) l25 c25 k25 (He.eqO_ok (show Hd.glo "_law_is_set" K = true from Hd.fact c 38)) l26 c26 k26 (He.eqO_ok (show Hd.glo "_law_is_name" K = true from Hd.fact c 39)) l27 c27 k27 (He.eqO_ok (show Hd.glo "_law_con_text" K = true from Hd.fact c 40)) l28 c28 k28 (He.eqO_ok (show Hd.glo "_law_met" K = true from Hd.fact c 41)) l29 c29 k29 (He.eqO_ok (show Hd.glo "_law_three" K = true from Hd.fact c 42)) l30 c30 k30 (He.eqO_ok (show Hd.glo "_law_due" K = true from Hd.fact c 43)) l31 c31 k31 (He.eqO_ok (show Hd.glo "_law_shown" K = true from Hd.fact c 44)) l32 c32 k32 (He.eqO_ok (show Hd.glo "_law_right" K = true from Hd.fact c 45)) l33 c33 k33 (He.eqO_ok (show Hd.glo "law" K = true from Hd.fact c 46)) l34 c34 k34 (He.eqO_ok (show Hd.fre "int" K = true from Hd.fact c 47)) (He.eqO_ok (show Hd.fre "isinstance" K = true from Hd.fact c 48)) (He.eqO_ok (show Hd.fre "bool" K = true from Hd.fact c 49)) (He.eqO_ok (show Hd.fre "tuple" K = true from Hd.fact c 50)) (He.eqO_ok (show Hd.fre "len" K = true from Hd.fact c 51)) (He.eqO_ok (show Hd.fre "all" K = true from Hd.fact c 52)) (He.eqO_ok (show Hd.fre "zip" K = true from Hd.fact c 53)) (He.eqO_ok (show Hd.fre "sorted" K = true from Hd.fact c 54)) (He.eqO_ok (show Hd.fre "max" K = true from Hd.fact c 55)) (He.eqO_ok (show Hd.fre "min" K = true from Hd.fact c 56)) (He.eqO_ok (show Hd.fre "str" K = true from Hd.fact c 57)) (He.eqO_ok (show Hd.fre "abs" K = true from Hd.fact c 58)) (He.eqO_ok (show Hd.fre "range" K = true from Hd.fact c 59)) (He.eqO_ok (show Hd.fre "repr" K = true from Hd.fact c 60)) (He.eqO_ok (show Hd.fre "any" K = true from Hd.fact c 61)) z_PAIR z_MOST_LETTERS z_WORDS y_WORDS_1 z_SMALL z_LEAST z_GREATEST z_MOST_PAIRS z_CONDITION z_JOINED z_NEGATED z_BETWEEN z_MISSING z_NOTHING z_MOST_COLUMNS ra_BadColumn ra_BadRanges ra_BadFlag ca_FactsError er ca_BadColumn ca_BadRanges ca_BadFlag ca_ValueError (Hd.cdB_ok hcb l33) hnm
end Tk
end Lw
open PySem PySem.W PyProof.Rows
set_option maxHeartbeats 0 in
theorem PySem.Challenge.cw_piecefacts_k05_conditions_of_any_values_holds : PySem.Challenge.rw_piecefacts_k05_conditions_of_any_values.Holds := by
  refine Lw.Tk.headP.2 ?_
  refine Dl.walk_gL (l := PySem.Challenge.rw_piecefacts_k05_conditions_of_any_values) (n := 63) (k := 10) (x := "_law_script") (C := Lw.Tk.C_law) "_law_right.<locals>.<lambda>" rfl (by decide) (by kernel_rfl) ⟨rfl, by decide, by decide⟩ ?F Lw.Tk.law_true
  intro w mg fa h Y G hmg0
  obtain ⟨K, P, KX, c, c1, c2, c3, c4⟩ := Y
  have hmg : mg ("law" : PySem.Str) = some (.ref fa) := by
    have e : (HandSHeadRun.topDef (PySem.W.OpenLaw.row PySem.Challenge.rw_piecefacts_k05_conditions_of_any_values).prog 71).name = ("law" : PySem.Str) := by kernel_rfl
    rw [← e]
    exact hmg0
  letI : Dl.TabN := Dl.tabAt P "_law_right.<locals>.<lambda>"
  obtain ⟨fd, hb, hF⟩ := Lw.Tk.hall (w := w) (PA := P) KX G hmg c c1 (Dl.tabAt_nm P "_law_right.<locals>.<lambda>")
  exact ⟨K, fd, _, P, KX, c4, c3, Dl.Hd.codO_ok KX c2, hb, hF⟩
