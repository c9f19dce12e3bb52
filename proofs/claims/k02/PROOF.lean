import PyProof.Rows.All
import Wide.All
import OpenK.AllK
import Wide.FinOn
import HandS.ForMost
import HandS.Lambda
import HandS.NoneIn
import HandS.Zip
import HandS.Head2
import HandS.HeadHook1
import KE.KExcSuper
import HandS.ExcOwn
import HandS.ExcInit
import HandS.WordsExc
import HandS.Wide
import HandS.TupAny
import HandS.SortRule
import HandS.IsInst
import PyProof.ReprLen
import PyProof.ReprRoads
import HandS.Style
import HandS.Deep
import HandS.SortInts
import HandS.SetFor
import HandS.Strs
import KE.GoesEnum
import HandS.Star
import KE.KTupSum
import HandS.SetKeys
import HandS.TupMul
import HandS.Conv
import HandS.BoundDict
import HandS.Property
import OpenK.KMeth
import KE.KOpsOwn
import HandS.DictComp
import HandS.Text
import HandS.Comp
import KE.KDictZip
import KE.KDictItemsList
import HandS.ListItems
import KE.DataMinMax
import HandS.Defaults
import HandS.ExcValue
import HandS.TryMany
import HandS.ExcField
import HandS.ExcIs
import KE.KExcIs
import HandS.EndTab
import HandS.RevRange
import KE.KTurns
import KE.KCallOwn
import HandS.More
import OpenK.KOps
import PyProof.AutoSeq1
import HandS.Iter
import PySem.Challenge.RW_piecefacts_k02_two_range_sets
set_option Elab.async false
set_option linter.all false
set_option maxRecDepth 100000
namespace Dl
open PySem L2
class TabN where
  nm : Addr → Option Str
instance (priority := 1) tabN0 : TabN := ⟨fun _ => none⟩
variable [TabN]
def TabsN (H : Hp) : Prop := ∀ (P : Addr) (q : Str), TabN.nm P = some q → LamX.TabS H P q
inductive D where
  | non | bl (b : Bool) | int (i : Int) | str (x : Str)
  | tup (ds : List D) | lst (ds : List D) | dct (kvs : List (Key × D)) | raw (v : V) | arg (ns : List Int) | tix (ys : List Str) | obj (c : Str) (fs : List (Str × D)) | exc (c : Str) (f : Str) (v : D) | fn (f c : Addr) (q : Str) (vs : List V) (ds : List D)
inductive O where
  | lst (ds : List D) | dct (kvs : List (Key × D)) | obj (c : Str) (fs : List (Str × D)) | lck (kvs : List (Key × D))
def O.d : O → D
  | .lst ds => .lst ds
  | .dct kvs => .dct kvs
  | .obj c fs => .obj c fs
  | .lck kvs => .dct kvs
def ClsAt (K : PySem.W.Frag) (c : Str) (C : Addr) : Prop := PySem.W.nsIn K mainGlobals c = some (some (.ref C))
inductive Slot where
  | nil | fro (d : D) | own (lent : Bool) (o : O) | var (i : Nat) | at (a : Addr) | sto (S : Addr → Option O) | bun (d : D) (S : Addr → Option O)
def gho : List Slot → Addr → Option O
  | [], _ => none
  | .sto S :: _, a => S a
  | _ :: ρ, a => gho ρ a
def KL (K : PySem.W.Frag) (a : Addr) (xs : List V) : Prop :=
  ∃ (o : Obj) (its : Array Value) (n : Nat), K.lookup a = some o ∧ o.cls = .type "list" ∧ o.dict = none ∧ o.data = .seq its n ∧ its.size ≤ sizeLine ∧ Vals xs its.toList
def ArgAt (K : PySem.W.Frag) (H : Hp) (a : Addr) (ns : List Int) : Prop := (∃ o, H a = some (.frz o (.lst (ns.map V.int)))) ∨ KL K a (ns.map V.int)
def ExcO (cls : Value) (d : Option Addr) (a : Addr) : HO := .ext fun h => ∃ (oe : Obj) (vs : Array Value), h.get? a = some oe ∧ Zc cls d oe ∧ oe.data = .fields vs
def TixAt (H : Hp) (a : Addr) (ys : List Str) : Prop := ∃ o : Obj, H a = some (.frz o (.tup (ys.map V.str))) ∧ o.dict = none
theorem ArgAt.sq {K : PySem.W.Frag} {H : Hp} {a : Addr} {ns : List Int} (h : ArgAt K H a ns) : SqL K H a (ns.map V.int) := h.elim (fun ⟨o, e⟩ => .inl (.inr ⟨o, e⟩)) .inr
mutual
inductive RepV (K : PySem.W.Frag) (A : Addr → Prop) (H : Hp) : V → D → Prop
  | non : RepV K A H .non .non
  | bl (b : Bool) : RepV K A H (.bl b) (.bl b)
  | int (i : Int) : RepV K A H (.int i) (.int i)
  | str (x : Str) : RepV K A H (.str x) (.str x)
  | tup {a : Addr} {xs : List V} {ds : List D} : SqT K H a xs → RepL K A H xs ds → RepV K A H (.ref a) (.tup ds)
  | lst {a : Addr} {xs : List V} {ds : List D} : H a = some (.lst xs) → ¬ A a → RepL K A H xs ds → RepV K A H (.ref a) (.lst ds)
  | arg {a : Addr} {ns : List Int} : ArgAt K H a ns → RepV K A H (.ref a) (.arg ns)
  | tix {a : Addr} {ys : List Str} : TixAt H a ys → RepV K A H (.ref a) (.tix ys)
  | dct {a : Addr} {kvs : List (Key × V)} {kds : List (Key × D)} : Rd H a (.dK kvs) → ¬ A a → RepK K A H kvs kds → RepV K A H (.ref a) (.dct kds)
  | raw (v : V) : RepV K A H v (.raw v)
  | obj {a C dx : Addr} {c : Str} {fvs : List (Str × V)} {fds : List (Str × D)} : H a = some (.ins C dx fvs) → ¬ A a → ClsAt K c C → RepF K A H fvs fds → RepV K A H (.ref a) (.obj c fds)
  | exc {a C dd : Addr} {c f : Str} {v : V} {d : D} : H a = some (ExcO (.ref C) (some dd) a) → H dd = some (.xd [(f, v)]) → ClsAt K c C → RepV K A H v d → RepV K A H (.ref a) (.exc c f d)
  | fn {f c : Addr} {q : Str} {vs : List V} {ds : List D} : H c = some (LamX.CodeO c q) → RepL K A H vs ds → RepV K A H (.ref f) (.fn f c q vs ds)
inductive RepL (K : PySem.W.Frag) (A : Addr → Prop) (H : Hp) : List V → List D → Prop
  | nil : RepL K A H [] []
  | cons {v : V} {vs : List V} {d : D} {ds : List D} : RepV K A H v d → RepL K A H vs ds → RepL K A H (v :: vs) (d :: ds)
inductive RepK (K : PySem.W.Frag) (A : Addr → Prop) (H : Hp) : List (Key × V) → List (Key × D) → Prop
  | nil : RepK K A H [] []
  | cons {k : Key} {v : V} {vs : List (Key × V)} {d : D} {ds : List (Key × D)} : RepV K A H v d → RepK K A H vs ds → RepK K A H ((k, v) :: vs) ((k, d) :: ds)
inductive RepF (K : PySem.W.Frag) (A : Addr → Prop) (H : Hp) : List (Str × V) → List (Str × D) → Prop
  | nil : RepF K A H [] []
  | cons {k : Str} {v : V} {vs : List (Str × V)} {d : D} {ds : List (Str × D)} : RepV K A H v d → RepF K A H vs ds → RepF K A H ((k, v) :: vs) ((k, d) :: ds)
end
def isImm : HO → Prop
  | .tup _ => True
  | .frz _ _ => True
  | .ext _ => True
  | .xd _ => True
  | _ => False
def isTbl : HO → Prop
  | .tbl _ => True
  | _ => False
def isFix : HO → Prop
  | .tup _ => True
  | .frz _ _ => True
  | .ext _ => True
  | .tbl _ => True
  | .xd _ => True
  | _ => False
theorem isImm.fix {o : HO} (h : isImm o) : isFix o := by
  cases o <;> first | exact trivial | exact h.elim
theorem TabsN.ext {H H' : Hp} (t : TabsN H) (e : ∀ a o, H a = some o → H' a = some o) : TabsN H' := fun P q h => (t P q h).ext e
theorem TabsN.upd {H : Hp} {a : Addr} {u : HO} (t : TabsN H) (hm : ∀ o, H a = some o → ¬ isFix o) : TabsN (L2.upd H a u) := fun P q h => by
  obtain ⟨ps, h1, h2, h3⟩ := t P q h
  have ne : ∀ {b : Addr} {o : HO}, H b = some o → isFix o → b ≠ a := fun {b o} e f z => hm o (by rw [← z]; exact e) f
  refine ⟨ps, by rw [upd_ne (ne h1 trivial)]; exact h1, h2, fun pos cv hc => ?_⟩
  obtain ⟨c, e1, e2⟩ := h3 pos cv hc
  exact ⟨c, e1, by rw [upd_ne (ne e2 trivial)]; exact e2⟩
structure Kp0 (S : Addr → Prop) (H H' : Hp) : Prop where
  keep : ∀ a o, H a = some o → ¬ S a → ∀ (_ : ¬ isTbl o := by exact fun z => z), H' a = some o
  imm : ∀ a o, H a = some o → isImm o → H' a = some o
structure Kp (S : Addr → Prop) (H H' : Hp) : Prop extends Kp0 S H H' where
  trk : ∀ a, H a ≠ none → H' a ≠ none
  tab : TabsN H → TabsN H'
def Ex (H H' : Hp) : Prop := ∀ a o, H a = some o → H' a = some o
theorem Ex.refl (H : Hp) : Ex H H := fun _ _ h => h
theorem Ex.trans {H H1 H2 : Hp} (a : Ex H H1) (b : Ex H1 H2) : Ex H H2 := fun x o h => b x o (a x o h)
theorem Ex.new {H : Hp} {p : Addr} {o : HO} (h : H p = none) : Ex H (upd H p o) := fun a u e => by
  rw [upd_ne (ne_of_none e h)]; exact e
theorem Ex.back {H H' : Hp} {p : Addr} (e : Ex H H') (h : H' p = none) : H p = none := by
  cases q : H p with
  | none => rfl
  | some o => rw [e p o q] at h; cases h
theorem Ex.kp {S : Addr → Prop} {H H' : Hp} (e : Ex H H') : Kp S H H' :=
  ⟨⟨fun a o h _ _ => e a o h, fun a o h _ => e a o h⟩, fun a h => by
    cases q : H a with
    | none => exact absurd q h
    | some o => rw [e a o q]; exact nofun, fun t => t.ext e⟩
theorem Kp.refl {S : Addr → Prop} {H : Hp} : Kp S H H := (Ex.refl H).kp
theorem Kp.mono {S T : Addr → Prop} {H H' : Hp} (k : Kp S H H') (h : ∀ a, S a → T a) : Kp T H H' :=
  ⟨⟨fun a o e n t => k.keep a o e (fun z => n (h a z)) t, k.imm⟩, k.trk, k.tab⟩
theorem Kp.trans {S T : Addr → Prop} {H H1 H2 : Hp} (a : Kp S H H1) (b : Kp T H1 H2) (h : ∀ x, T x → S x) : Kp S H H2 :=
  ⟨⟨fun x o e n t => b.keep x o (a.keep x o e n t) (fun z => n (h x z)) t, fun x o e i => b.imm x o (a.imm x o e i) i⟩, fun x e => b.trk x (a.trk x e), fun t => b.tab (a.tab t)⟩
theorem Kp.back {S : Addr → Prop} {H H' : Hp} {p : Addr} (e : Kp S H H') (h : H' p = none) : H p = none := by
  cases q : H p with
  | none => rfl
  | some o => exact absurd h (e.trk p (by rw [q]; exact nofun))
theorem Kp0.rdT {S : Addr → Prop} {H H' : Hp} {K : PySem.W.Frag} {a : Addr} {xs : List V} (k : Kp0 S H H') (h : SqT K H a xs) : SqT K H' a xs := by
  rcases h with (h | ⟨o, h⟩) | h
  · exact .inl (.inl (k.imm _ _ h trivial))
  · exact .inl (.inr ⟨o, k.imm _ _ h trivial⟩)
  · exact .inr h
theorem Kp.rd {S : Addr → Prop} {H H' : Hp} {a : Addr} {u : HO} (k : Kp S H H') (h : Rd H a u) (n : ¬ S a) (t : ¬ isTbl u := by exact fun z => z) : Rd H' a u := by
  rcases h with h | ⟨o, h⟩
  · exact .inl (k.keep _ _ h n t)
  · exact .inr ⟨o, k.imm _ _ h trivial⟩
section
variable {K : PySem.W.Frag} {A A' S : Addr → Prop} {H H' : Hp}
mutual
theorem RepV.mono0 (k : Kp0 S H H') (hs : ∀ a, S a → A a) (ha : ∀ a, A' a → A a ∨ H a = none) : ∀ {v : V} {d : D}, RepV K A H v d → RepV K A' H' v d
  | _, _, .non => .non
  | _, _, .bl b => .bl b
  | _, _, .int i => .int i
  | _, _, .str x => .str x
  | _, _, .tup h r => .tup (k.rdT h) (RepL.mono0 k hs ha r)
  | _, _, .lst h n r => .lst (k.keep _ _ h fun z => n (hs _ z)) (fun z => (ha _ z).elim n fun e => by rw [e] at h; cases h) (RepL.mono0 k hs ha r)
  | _, _, .arg h => .arg (h.elim (fun ⟨o, e⟩ => .inl ⟨o, k.imm _ _ e trivial⟩) .inr)
  | _, _, .tix h => .tix (let ⟨o, e, d⟩ := h; ⟨o, k.imm _ _ e trivial, d⟩)
  | _, _, .dct h n r => .dct (h.elim (fun h => .inl (k.keep _ _ h fun z => n (hs _ z))) fun ⟨o, h⟩ => .inr ⟨o, k.imm _ _ h trivial⟩) (fun z => (ha _ z).elim n fun e => h.elim (fun h => by rw [e] at h; cases h) fun ⟨o, h⟩ => by rw [e] at h; cases h) (RepK.mono0 k hs ha r)
  | _, _, .raw v => .raw v
  | _, _, .obj h n hc r => .obj (k.keep _ _ h fun z => n (hs _ z)) (fun z => (ha _ z).elim n fun e => by rw [e] at h; cases h) hc (RepF.mono0 k hs ha r)
  | _, _, .exc h1 h2 hc r => .exc (k.imm _ _ h1 trivial) (k.imm _ _ h2 trivial) hc (RepV.mono0 k hs ha r)
  | _, _, .fn h r => .fn (k.imm _ _ h trivial) (RepL.mono0 k hs ha r)
theorem RepL.mono0 (k : Kp0 S H H') (hs : ∀ a, S a → A a) (ha : ∀ a, A' a → A a ∨ H a = none) : ∀ {vs : List V} {ds : List D}, RepL K A H vs ds → RepL K A' H' vs ds
  | _, _, .nil => .nil
  | _, _, .cons h r => .cons (RepV.mono0 k hs ha h) (RepL.mono0 k hs ha r)
theorem RepK.mono0 (k : Kp0 S H H') (hs : ∀ a, S a → A a) (ha : ∀ a, A' a → A a ∨ H a = none) : ∀ {vs : List (Key × V)} {ds : List (Key × D)}, RepK K A H vs ds → RepK K A' H' vs ds
  | _, _, .nil => .nil
  | _, _, .cons h r => .cons (RepV.mono0 k hs ha h) (RepK.mono0 k hs ha r)
theorem RepF.mono0 (k : Kp0 S H H') (hs : ∀ a, S a → A a) (ha : ∀ a, A' a → A a ∨ H a = none) : ∀ {vs : List (Str × V)} {ds : List (Str × D)}, RepF K A H vs ds → RepF K A' H' vs ds
  | _, _, .nil => .nil
  | _, _, .cons h r => .cons (RepV.mono0 k hs ha h) (RepF.mono0 k hs ha r)
end
theorem RepF.mono (k : Kp S H H') (hs : ∀ a, S a → A a) (ha : ∀ a, A' a → A a ∨ H a = none) {v : List (Str × V)} {d : List (Str × D)} (r : RepF K A H v d) : RepF K A' H' v d := r.mono0 k.toKp0 hs ha
theorem RepV.mono (k : Kp S H H') (hs : ∀ a, S a → A a) (ha : ∀ a, A' a → A a ∨ H a = none) {v : V} {d : D} (r : RepV K A H v d) : RepV K A' H' v d := r.mono0 k.toKp0 hs ha
theorem RepL.mono (k : Kp S H H') (hs : ∀ a, S a → A a) (ha : ∀ a, A' a → A a ∨ H a = none) {v : List V} {d : List D} (r : RepL K A H v d) : RepL K A' H' v d := r.mono0 k.toKp0 hs ha
theorem RepK.mono (k : Kp S H H') (hs : ∀ a, S a → A a) (ha : ∀ a, A' a → A a ∨ H a = none) {v : List (Key × V)} {d : List (Key × D)} (r : RepK K A H v d) : RepK K A' H' v d := r.mono0 k.toKp0 hs ha
theorem RepL.length : ∀ {vs : List V} {ds : List D}, RepL K A H vs ds → vs.length = ds.length
  | _, _, .nil => rfl
  | _, _, .cons _ r => by rw [List.length_cons, List.length_cons, RepL.length r]
theorem RepL.get : ∀ {vs : List V} {ds : List D} {i : Nat} {d : D}, RepL K A H vs ds → ds[i]? = some d → ∃ v, vs[i]? = some v ∧ RepV K A H v d
  | _, _, _, _, .nil, e => by simp at e
  | _, _, 0, _, .cons h _, e => by simp at e; subst e; exact ⟨_, rfl, h⟩
  | _, _, i + 1, d, .cons _ r, e => by
    obtain ⟨v, h1, h2⟩ := RepL.get (i := i) (d := d) r (by simpa using e)
    exact ⟨v, by simpa using h1, h2⟩
theorem RepL.append : ∀ {vs ws : List V} {ds es : List D}, RepL K A H vs ds → RepL K A H ws es → RepL K A H (vs ++ ws) (ds ++ es)
  | _, _, _, _, .nil, s => s
  | _, _, _, _, .cons h r, s => .cons h (RepL.append r s)
theorem RepL.take : ∀ {vs : List V} {ds : List D} (n : Nat), RepL K A H vs ds → RepL K A H (vs.take n) (ds.take n)
  | _, _, 0, _ => .nil
  | _, _, _ + 1, .nil => .nil
  | _, _, n + 1, .cons h r => .cons h (RepL.take n r)
theorem RepL.drop : ∀ {vs : List V} {ds : List D} (n : Nat), RepL K A H vs ds → RepL K A H (vs.drop n) (ds.drop n)
  | _, _, 0, r => r
  | _, _, _ + 1, .nil => .nil
  | _, _, n + 1, .cons _ r => RepL.drop n r
theorem RepL.set {v : V} {d : D} (h : RepV K A H v d) : ∀ {vs : List V} {ds : List D} (i : Nat), RepL K A H vs ds → RepL K A H (vs.set i v) (ds.set i d)
  | _, _, _, .nil => .nil
  | _, _, 0, .cons _ r => .cons h r
  | _, _, i + 1, .cons q r => .cons q (RepL.set h i r)
theorem RepL.one {v : V} {d : D} (h : RepV K A H v d) : RepL K A H [v] [d] := .cons h .nil
theorem RepL.reverse : ∀ {vs : List V} {ds : List D}, RepL K A H vs ds → RepL K A H vs.reverse ds.reverse
  | _, _, .nil => .nil
  | _, _, .cons h r => by
    rw [List.reverse_cons, List.reverse_cons]
    exact (RepL.reverse r).append (.one h)
theorem RepL.ints (ns : List Int) : RepL K A H (ns.map V.int) (ns.map D.int) := by
  induction ns with
  | nil => exact .nil
  | cons n r ih => exact .cons (.int n) ih
end
def Own (ρ : List Slot) (σ : St) (a : Addr) : Prop := (∃ (i : Nat) (b : Bool) (o : O), ρ[i]? = some (.own b o) ∧ σ[i]? = some (some (.ref a))) ∨ ∃ (i : Nat) (S : Addr → Option O), ρ[i]? = some (.sto S) ∧ S a ≠ none
def Av (B : Addr → Prop) (ρ : List Slot) (σ : St) (a : Addr) : Prop := Own ρ σ a ∨ B a
def OOk (K : PySem.W.Frag) (A : Addr → Prop) (H : Hp) (a : Addr) : O → Prop
  | .lst ds => ∃ xs, H a = some (.lst xs) ∧ RepL K A H xs ds
  | .dct kds => ∃ kvs, H a = some (.dK kvs) ∧ RepK K A H kvs kds
  | .obj c fds => ∃ C dx fvs, H a = some (.ins C dx fvs) ∧ ClsAt K c C ∧ RepF K A H fvs fds
  | .lck _ => False
def OOkS (K : PySem.W.Frag) (A : Addr → Prop) (H : Hp) (a : Addr) : O → Prop
  | .lck kds => ∃ ob kvs, H a = some (.frz ob (.dK kvs)) ∧ RepK K A H kvs kds
  | .lst ds => OOk K A H a (.lst ds)
  | .dct kds => OOk K A H a (.dct kds)
  | .obj c fds => OOk K A H a (.obj c fds)
theorem OOk.s {K : PySem.W.Frag} {A : Addr → Prop} {H : Hp} {a : Addr} {o : O} (h : OOk K A H a o) : OOkS K A H a o := by
  cases o with
  | lst ds => exact h
  | dct ds => exact h
  | obj c ds => exact h
  | lck ds => exact h.elim
theorem TabsN.swap {H : Hp} {a : Addr} {u o : HO} (t : TabsN H) (e : H a = some o) (n1 : ∀ ps, o ≠ .tbl ps) (n2 : ∀ φ, o ≠ .ext φ) : TabsN (L2.upd H a u) := fun P q h => by
  obtain ⟨ps, h1, h2, h3⟩ := t P q h
  have ne : ∀ {b : Addr} {x : HO}, H b = some x → (x ≠ o) → b ≠ a := fun {b x} f m z => m (by rw [z, e] at f; exact (Option.some.inj f).symm)
  refine ⟨ps, by rw [upd_ne (ne h1 fun z => n1 ps z.symm)]; exact h1, h2, fun pos cv hc => ?_⟩
  obtain ⟨c, e1, e2⟩ := h3 pos cv hc
  exact ⟨c, e1, by rw [upd_ne (ne e2 fun z => n2 _ z.symm)]; exact e2⟩
def SlotOk (K : PySem.W.Frag) (A : Addr → Prop) (H : Hp) : Slot → Option (Option V) → Prop
  | .nil, _ => True
  | .fro d, x => ∃ v, x = some (some v) ∧ RepV K A H v d
  | .own _ o, x => ∃ a, x = some (some (.ref a)) ∧ OOk K A H a o
  | .var _, _ => False
  | .at _, _ => False
  | .bun _ _, _ => False
  | .sto S, x => x = none ∧ ∀ a o, S a = some o → OOkS K A H a o
structure Shape (ρ : List Slot) (σ : St) : Prop where
  len : σ.length ≤ ρ.length
  tail : ∀ (i : Nat) (s : Slot), ρ[i]? = some s → i < σ.length ∨ ∃ S, s = .sto S
  inj : ∀ (i j : Nat) (b : Bool) (o : O) (b' : Bool) (o' : O) (a : Addr), ρ[i]? = some (.own b o) → ρ[j]? = some (.own b' o') → σ[i]? = some (some (.ref a)) → σ[j]? = some (some (.ref a)) → i = j
  snd : ∀ (i j : Nat) (S : Addr → Option O) (b : Bool) (o : O) (a : Addr), ρ[i]? = some (.sto S) → ρ[j]? = some (.own b o) → σ[j]? = some (some (.ref a)) → S a = none
  one : ∀ (i j : Nat) (S T : Addr → Option O), ρ[i]? = some (.sto S) → ρ[j]? = some (.sto T) → i = j
theorem Shape.of {ρ ρ' : List Slot} {σ σ' : St} (h : Shape ρ σ) (len : σ'.length ≤ ρ'.length) (tail : ∀ (i : Nat) (s : Slot), ρ'[i]? = some s → i < σ'.length ∨ ∃ S, s = .sto S)
    (own : ∀ (i : Nat) (b : Bool) (o : O) (a : Addr), ρ'[i]? = some (.own b o) → σ'[i]? = some (some (.ref a)) → ∃ b' o', ρ[i]? = some (.own b' o') ∧ σ[i]? = some (some (.ref a)))
    (sto : ∀ (i : Nat) (S' : Addr → Option O), ρ'[i]? = some (.sto S') → ∃ S, ρ[i]? = some (.sto S) ∧ ∀ a, S' a ≠ none → S a ≠ none) : Shape ρ' σ' := by
  refine ⟨len, tail, fun i j b o b' o' a e1 e2 e3 e4 => ?_, fun i j S b o a e1 e2 e3 => ?_, fun i j S T e1 e2 => ?_⟩
  · obtain ⟨c1, o1, f1, g1⟩ := own i b o a e1 e3
    obtain ⟨c2, o2, f2, g2⟩ := own j b' o' a e2 e4
    exact h.inj i j c1 o1 c2 o2 a f1 f2 g1 g2
  · obtain ⟨c2, o2, f2, g2⟩ := own j b o a e2 e3
    obtain ⟨S1, f1, g1⟩ := sto i S e1
    have := h.snd i j S1 c2 o2 a f1 f2 g2
    cases e : S a with
    | none => rfl
    | some u => exact absurd this (g1 a (by rw [e]; exact nofun))
  · obtain ⟨S1, f1, _⟩ := sto i S e1
    obtain ⟨S2, f2, _⟩ := sto j T e2
    exact h.one i j S1 S2 f1 f2
structure Rep (K : PySem.W.Frag) (B : Addr → Prop) (ρ : List Slot) (σ : St) (H : Hp) : Prop where
  shp : Shape ρ σ
  slot : ∀ (i : Nat) (s : Slot), ρ[i]? = some s → SlotOk K (Av B ρ σ) H s σ[i]?
  btr : ∀ a, B a → H a ≠ none
  dis : ∀ a, Own ρ σ a → ¬ B a
  tabs : TabsN H
section
variable {K : PySem.W.Frag} {B : Addr → Prop} {ρ : List Slot} {σ : St} {H : Hp}
theorem Rep.len (R : Rep K B ρ σ H) : σ.length ≤ ρ.length := R.shp.len
theorem Rep.inj (R : Rep K B ρ σ H) : ∀ (i j : Nat) (b : Bool) (o : O) (b' : Bool) (o' : O) (a : Addr), ρ[i]? = some (.own b o) → ρ[j]? = some (.own b' o') → σ[i]? = some (some (.ref a)) → σ[j]? = some (some (.ref a)) → i = j := R.shp.inj
theorem Rep.snd (R : Rep K B ρ σ H) : ∀ (i j : Nat) (S : Addr → Option O) (b : Bool) (o : O) (a : Addr), ρ[i]? = some (.sto S) → ρ[j]? = some (.own b o) → σ[j]? = some (some (.ref a)) → S a = none := R.shp.snd
theorem Rep.one (R : Rep K B ρ σ H) : ∀ (i j : Nat) (S T : Addr → Option O), ρ[i]? = some (.sto S) → ρ[j]? = some (.sto T) → i = j := R.shp.one
theorem Rep.tail (R : Rep K B ρ σ H) : ∀ (i : Nat) (s : Slot), ρ[i]? = some s → i < σ.length ∨ ∃ S, s = .sto S := R.shp.tail
end
structure Sub (ρ' ρ : List Slot) : Prop where
  old : ∀ (i : Nat) (b : Bool) (o : O), ρ'[i]? = some (.own b o) → ∃ o' : O, ρ[i]? = some (.own b o')
  lent : ∀ (i : Nat) (o : O), ρ[i]? = some (.own true o) → ∃ o' : O, ρ'[i]? = some (.own true o')
  sto : ∀ (i : Nat) (S' : Addr → Option O), ρ'[i]? = some (.sto S') → ∃ S, ρ[i]? = some (.sto S) ∧ ∀ a, S' a ≠ none → S a ≠ none
  stl : ∀ (i : Nat) (S : Addr → Option O), ρ[i]? = some (.sto S) → ∃ S', ρ'[i]? = some (.sto S')
theorem Sub.refl (ρ : List Slot) : Sub ρ ρ := ⟨fun _ _ o h => ⟨o, h⟩, fun _ o h => ⟨o, h⟩, fun _ S h => ⟨S, h, fun _ z => z⟩, fun _ S h => ⟨S, h⟩⟩
theorem Sub.trans {ρ ρ1 ρ2 : List Slot} (a : Sub ρ1 ρ) (b : Sub ρ2 ρ1) : Sub ρ2 ρ := ⟨fun i c o h => by
    obtain ⟨o1, h1⟩ := b.old i c o h
    exact a.old i c o1 h1, fun i o h => by
    obtain ⟨o1, h1⟩ := a.lent i o h
    exact b.lent i o1 h1, fun i S h => by
    obtain ⟨S1, h1, k1⟩ := b.sto i S h
    obtain ⟨S2, h2, k2⟩ := a.sto i S1 h1
    exact ⟨S2, h2, fun x z => k2 x (k1 x z)⟩, fun i S h => by
    obtain ⟨S1, h1⟩ := a.stl i S h
    exact b.stl i S1 h1⟩
theorem Sub.own {ρ ρ' : List Slot} {σ : St} (h : Sub ρ' ρ) (a : Addr) (x : Own ρ' σ a) : Own ρ σ a := by
  rcases x with ⟨i, b, o, h1, h2⟩ | ⟨i, S, h1, h2⟩
  · obtain ⟨o', h3⟩ := h.old i b o h1
    exact .inl ⟨i, b, o', h3, h2⟩
  · obtain ⟨S', h3, k⟩ := h.sto i S h1
    exact .inr ⟨i, S', h3, k a h2⟩
theorem Shape.sub {ρ ρ' : List Slot} {σ : St} (h : Shape ρ σ) (hl : ρ'.length = ρ.length) (s : Sub ρ' ρ) : Shape ρ' σ := by
  refine h.of (by rw [hl]; exact h.len) (fun i u e => ?_) (fun i b o a e1 e2 => ?_) s.sto
  · have hi := (List.getElem?_eq_some_iff.mp e).1
    rw [hl] at hi
    rcases h.tail i _ (List.getElem?_eq_getElem hi) with z | ⟨S, z⟩
    · exact .inl z
    · obtain ⟨S', z'⟩ := s.stl i S (by rw [List.getElem?_eq_getElem hi, z])
      rw [e] at z'; cases z'
      exact .inr ⟨S', rfl⟩
  · obtain ⟨o', z⟩ := s.old i b o e1
    exact ⟨b, o', z, e2⟩
theorem OOk.trk {K : PySem.W.Frag} {A : Addr → Prop} {H : Hp} {a : Addr} {o : O} (h : OOk K A H a o) : H a ≠ none := by
  cases o with
  | lst ds => obtain ⟨xs, e, _⟩ := h; rw [e]; exact nofun
  | dct ds => obtain ⟨xs, e, _⟩ := h; rw [e]; exact nofun
  | obj c ds => obtain ⟨C, dx, xs, e, _⟩ := h; rw [e]; exact nofun
  | lck ds => exact h.elim
theorem OOkS.trk {K : PySem.W.Frag} {A : Addr → Prop} {H : Hp} {a : Addr} {o : O} (h : OOkS K A H a o) : H a ≠ none := by
  cases o with
  | lst ds => exact OOk.trk (o := .lst ds) h
  | dct ds => exact OOk.trk (o := .dct ds) h
  | obj c ds => exact OOk.trk (o := .obj c ds) h
  | lck ds => obtain ⟨ob, xs, e, _⟩ := h; rw [e]; exact nofun
theorem OOk.mono {K : PySem.W.Frag} {A A' S : Addr → Prop} {H H' : Hp} {a : Addr} {o : O} (k : Kp S H H') (hs : ∀ a, S a → A a) (ha : ∀ a, A' a → A a ∨ H a = none) (n : ¬ S a) (h : OOk K A H a o) : OOk K A' H' a o := by
  cases o with
  | lst ds => obtain ⟨xs, e, r⟩ := h; exact ⟨xs, k.keep _ _ e n, r.mono k hs ha⟩
  | dct ds => obtain ⟨xs, e, r⟩ := h; exact ⟨xs, k.keep _ _ e n, r.mono k hs ha⟩
  | obj c ds => obtain ⟨C, dx, xs, e, hc, r⟩ := h; exact ⟨C, dx, xs, k.keep _ _ e n, hc, r.mono k hs ha⟩
  | lck ds => exact h.elim
theorem OOkS.mono {K : PySem.W.Frag} {A A' S : Addr → Prop} {H H' : Hp} {a : Addr} {o : O} (k : Kp S H H') (hs : ∀ a, S a → A a) (ha : ∀ a, A' a → A a ∨ H a = none) (n : ¬ S a) (h : OOkS K A H a o) : OOkS K A' H' a o := by
  cases o with
  | lst ds => exact OOk.mono (o := .lst ds) k hs ha n h
  | dct ds => exact OOk.mono (o := .dct ds) k hs ha n h
  | obj c ds => exact OOk.mono (o := .obj c ds) k hs ha n h
  | lck ds => obtain ⟨ob, xs, e, r⟩ := h; exact ⟨ob, xs, k.imm _ _ e trivial, r.mono k hs ha⟩
theorem SlotOk.mono {K : PySem.W.Frag} {A A' S : Addr → Prop} {H H' : Hp} {s : Slot} {x : Option (Option V)} (k : Kp S H H') (hs : ∀ a, S a → A a) (ha : ∀ a, A' a → A a ∨ H a = none)
    (no : ∀ b o a, s = .own b o → x = some (some (.ref a)) → ¬ S a) (ns : ∀ T a, s = .sto T → T a ≠ none → ¬ S a) (h : SlotOk K A H s x) : SlotOk K A' H' s x := by
  cases s with
  | nil => trivial
  | fro d => obtain ⟨v, e1, r⟩ := h; exact ⟨v, e1, r.mono k hs ha⟩
  | own b o => obtain ⟨a, e1, r⟩ := h; exact ⟨a, e1, r.mono k hs ha (no b o a rfl e1)⟩
  | var j => exact h
  | «at» a => exact h
  | bun d T => exact h
  | sto T => exact ⟨h.1, fun a o z => (h.2 a o z).mono k hs ha (ns T a rfl (by rw [z]; exact nofun))⟩
theorem SlotOk.av {K : PySem.W.Frag} {A A' : Addr → Prop} {H : Hp} {s : Slot} {x : Option (Option V)} (h : SlotOk K A H s x) (ha : ∀ a, A' a → A a) : SlotOk K A' H s x :=
  h.mono (S := fun _ => False) Kp.refl (fun _ z => z.elim) (fun a z => .inl (ha a z)) (fun _ _ _ _ _ z => z) (fun _ _ _ _ z => z)
theorem Rep.own_trk {K : PySem.W.Frag} {B : Addr → Prop} {ρ : List Slot} {σ : St} {H : Hp} (R : Rep K B ρ σ H) {a : Addr} (h : Own ρ σ a) : H a ≠ none := by
  rcases h with ⟨i, b, o, h1, h2⟩ | ⟨i, S, h1, h2⟩
  · obtain ⟨a', e, q⟩ := R.slot i _ h1
    rw [h2] at e; cases e
    exact q.trk
  · cases e : S a with
    | none => exact absurd e h2
    | some o => exact ((R.slot i _ h1).2 a o e).trk
theorem Rep.av_trk {K : PySem.W.Frag} {B : Addr → Prop} {ρ : List Slot} {σ : St} {H : Hp} (R : Rep K B ρ σ H) {a : Addr} (h : Av B ρ σ a) : H a ≠ none :=
  h.elim R.own_trk (R.btr a)
theorem Rep.ex {K : PySem.W.Frag} {B B' : Addr → Prop} {ρ : List Slot} {σ : St} {H H' : Hp} (R : Rep K B ρ σ H) (e : Ex H H') (hb : ∀ a, B' a → B a ∨ (H a = none ∧ H' a ≠ none)) : Rep K B' ρ σ H' where
  shp := R.shp
  slot := fun i s h => by
    have q := R.slot i s h
    have ha : ∀ a, Av B' ρ σ a → Av B ρ σ a ∨ H a = none := fun a z => z.elim (fun z => .inl (.inl z)) fun z => (hb a z).elim (fun z => .inl (.inr z)) fun z => .inr z.1
    cases s with
    | nil => trivial
    | fro d => obtain ⟨v, e1, r⟩ := q; exact ⟨v, e1, r.mono (S := fun _ => False) e.kp (fun _ z => z.elim) ha⟩
    | own b o => obtain ⟨a, e1, r⟩ := q; exact ⟨a, e1, r.mono (S := fun _ => False) e.kp (fun _ z => z.elim) ha (fun z => z)⟩
    | var j => exact q
    | «at» a => exact q
    | bun d S => exact q
    | sto S => exact ⟨q.1, fun a o z => (q.2 a o z).mono (S := fun _ => False) e.kp (fun _ z => z.elim) ha (fun z => z)⟩
  btr := fun a z => (hb a z).elim (fun z => e.kp (S := fun _ => False) |>.trk a (R.btr a z)) fun z => z.2
  dis := fun a o z => (hb a z).elim (R.dis a o) fun z => R.own_trk o z.1
  tabs := R.tabs.ext e
theorem Rep.same {K : PySem.W.Frag} {B B' : Addr → Prop} {ρ : List Slot} {σ : St} {H H' : Hp} (R : Rep K B ρ σ H) (e : Kp (fun _ => False) H H') (hb : ∀ a, B' a → B a ∨ (H a = none ∧ H' a ≠ none)) : Rep K B' ρ σ H' where
  shp := R.shp
  slot := fun i s h => by
    have q := R.slot i s h
    have ha : ∀ a, Av B' ρ σ a → Av B ρ σ a ∨ H a = none := fun a z => z.elim (fun z => .inl (.inl z)) fun z => (hb a z).elim (fun z => .inl (.inr z)) fun z => .inr z.1
    cases s with
    | nil => trivial
    | fro d => obtain ⟨v, e1, r⟩ := q; exact ⟨v, e1, r.mono (S := fun _ => False) e (fun _ z => z.elim) ha⟩
    | own b o => obtain ⟨a, e1, r⟩ := q; exact ⟨a, e1, r.mono (S := fun _ => False) e (fun _ z => z.elim) ha (fun z => z)⟩
    | var j => exact q
    | «at» a => exact q
    | bun d S => exact q
    | sto S => exact ⟨q.1, fun a o z => (q.2 a o z).mono (S := fun _ => False) e (fun _ z => z.elim) ha (fun z => z)⟩
  btr := fun a z => (hb a z).elim (fun z => e.trk a (R.btr a z)) fun z => z.2
  dis := fun a o z => (hb a z).elim (R.dis a o) fun z => R.own_trk o z.1
  tabs := e.tab R.tabs
theorem gho_get : ∀ {ρ : List Slot} {a : Addr} {o : O}, gho ρ a = some o → ∃ (i : Nat) (S : Addr → Option O), ρ[i]? = some (.sto S) ∧ S a = some o
  | [], _, _, e => by cases e
  | .sto S :: ρ, a, o, e => ⟨0, S, rfl, e⟩
  | .nil :: ρ, a, o, e => let ⟨i, S, h1, h2⟩ := gho_get (ρ := ρ) e; ⟨i + 1, S, by simpa using h1, h2⟩
  | .fro _ :: ρ, a, o, e => let ⟨i, S, h1, h2⟩ := gho_get (ρ := ρ) e; ⟨i + 1, S, by simpa using h1, h2⟩
  | .own _ _ :: ρ, a, o, e => let ⟨i, S, h1, h2⟩ := gho_get (ρ := ρ) e; ⟨i + 1, S, by simpa using h1, h2⟩
  | .var _ :: ρ, a, o, e => let ⟨i, S, h1, h2⟩ := gho_get (ρ := ρ) e; ⟨i + 1, S, by simpa using h1, h2⟩
  | .bun _ _ :: ρ, a, o, e => let ⟨i, S, h1, h2⟩ := gho_get (ρ := ρ) e; ⟨i + 1, S, by simpa using h1, h2⟩
  | .at _ :: ρ, a, o, e => let ⟨i, S, h1, h2⟩ := gho_get (ρ := ρ) e; ⟨i + 1, S, by simpa using h1, h2⟩
def Post (K : PySem.W.Frag) (B : Addr → Prop) (ρ' : List Slot) (σ : St) (H H' : Hp) : Slot → V → Prop
  | .nil, _ => False
  | .fro d, v => Rep K B ρ' σ H' ∧ RepV K (Av B ρ' σ) H' v d
  | .own _ o, v => ∃ a, v = .ref a ∧ H a = none ∧ ¬ B a ∧ Rep K (fun x => B x ∨ x = a) ρ' σ H' ∧ OOk K (Av (fun x => B x ∨ x = a) ρ' σ) H' a o
  | .var i, v => Rep K B ρ' σ H' ∧ σ[i]? = some (some v)
  | .at a, v => Rep K B ρ' σ H' ∧ v = .ref a
  | .sto _, _ => False
  | .bun d S, v => (∀ a, S a ≠ none → H a = none ∧ ¬ B a) ∧ Rep K (fun x => B x ∨ S x ≠ none) ρ' σ H' ∧ RepV K (Av (fun x => B x ∨ S x ≠ none) ρ' σ) H' v d ∧ ∀ a o, S a = some o → OOkS K (Av (fun x => B x ∨ S x ≠ none) ρ' σ) H' a o
abbrev WE := List Slot → (Slot → List Slot → Prop) → Prop
abbrev WT := List Slot → (Bool → List Slot → Prop) → Prop
def tOf (K : PySem.W.Frag) (w : WE) : TE := fun σ H Q => ∃ (B : Addr → Prop) (ρ : List Slot) (Q' : Slot → List Slot → Prop), Rep K B ρ σ H ∧ w ρ Q' ∧
  ∀ s v ρ' H', Post K B ρ' σ H H' s v → Sub ρ' ρ → Kp (Own ρ σ) H H' → Q' s ρ' → Q v H'
def ttOf (K : PySem.W.Frag) (w : WT) : TT := fun σ H Q => ∃ (B : Addr → Prop) (ρ : List Slot) (Q' : Bool → List Slot → Prop), Rep K B ρ σ H ∧ w ρ Q' ∧
  ∀ b ρ' H', Rep K B ρ' σ H' → Sub ρ' ρ → Kp (Own ρ σ) H H' → Q' b ρ' → Q b H'
def ME (X : Cx) (e : Expr) (w : WE) : Prop := PE X e (tOf X.K w)
def MT (X : Cx) (e : Expr) (w : WT) : Prop := PT X e (ttOf X.K w)
def MW (X : Cx) (e : Expr) (w : WT) : Prop := PW X e (ttOf X.K w)
theorem PE_weak {X : Cx} {e : Expr} {t t' : TE} (h : PE X e t) (k : ∀ σ H Q, t' σ H Q → t σ H Q) : PE X e t' := ⟨fun pins s σ H Q I q => h.run pins s σ H Q I (k σ H Q q)⟩
theorem PT_weak {X : Cx} {e : Expr} {t t' : TT} (h : PT X e t) (k : ∀ σ H Q, t' σ H Q → t σ H Q) : PT X e t' := ⟨fun pins s σ H Q I q => h.run pins s σ H Q I (k σ H Q q)⟩
theorem PW_weak {X : Cx} {e : Expr} {t t' : TT} (h : PW X e t) (k : ∀ σ H Q, t' σ H Q → t σ H Q) : PW X e t' := ⟨fun wh pins s σ H Q I q => h.run wh pins s σ H Q I (k σ H Q q)⟩
theorem PA_weak {X : Cx} {e : List Expr} {t t' : TA} (h : PA X e t) (k : ∀ σ H Q, t' σ H Q → t σ H Q) : PA X e t' := ⟨fun pos pins s σ H Q I q => h.run pos pins s σ H Q I (k σ H Q q)⟩
theorem PS_weak {X : Cx} {e : Stmt} {t t' : TS} (h : PS X e t) (k : ∀ D σ H, t' D σ H → t D σ H) : PS X e t' := ⟨fun pins s σ H D I q => h.run pins s σ H D I (k D σ H q)⟩
theorem PSs_weak {X : Cx} {e : List Stmt} {t t' : TS} (h : PSs X e t) (k : ∀ D σ H, t' D σ H → t D σ H) : PSs X e t' := ⟨fun pins s σ H D I q => h.run pins s σ H D I (k D σ H q)⟩
theorem me_of {X : Cx} {e : Expr} {t : TE} {w : WE} (h : PE X e t)
    (k : ∀ (B : Addr → Prop) (ρ : List Slot) (σ : St) (H : Hp) (Q' : Slot → List Slot → Prop) (Q : VK), Rep X.K B ρ σ H → w ρ Q' →
      (∀ s v ρ' H', Post X.K B ρ' σ H H' s v → Sub ρ' ρ → Kp (Own ρ σ) H H' → Q' s ρ' → Q v H') → t σ H Q) : ME X e w :=
  PE_weak h fun σ H Q ⟨B, ρ, Q', R, hw, hq⟩ => k B ρ σ H Q' Q R hw hq
theorem mt_of {X : Cx} {e : Expr} {t : TT} {w : WT} (h : PT X e t)
    (k : ∀ (B : Addr → Prop) (ρ : List Slot) (σ : St) (H : Hp) (Q' : Bool → List Slot → Prop) (Q : Bool → Hp → Prop), Rep X.K B ρ σ H → w ρ Q' →
      (∀ b ρ' H', Rep X.K B ρ' σ H' → Sub ρ' ρ → Kp (Own ρ σ) H H' → Q' b ρ' → Q b H') → t σ H Q) : MT X e w :=
  PT_weak h fun σ H Q ⟨B, ρ, Q', R, hw, hq⟩ => k B ρ σ H Q' Q R hw hq
def lookD (ρ : List Slot) : Slot → Option D
  | .nil => none
  | .fro d => some d
  | .own _ o => some o.d
  | .var i => match ρ[i]? with
    | some (.own _ o) => some o.d
    | _ => none
  | .at a => (gho ρ a).map O.d
  | .sto _ => none
  | .bun _ _ => none
def Sees (K : PySem.W.Frag) (A : Addr → Prop) (H : Hp) (v : V) : D → Prop
  | .lst ds => ∃ a xs, v = .ref a ∧ H a = some (.lst xs) ∧ RepL K A H xs ds
  | .dct kds => ∃ a kvs, v = .ref a ∧ Rd H a (.dK kvs) ∧ RepK K A H kvs kds
  | .obj c fds => ∃ a C dx fvs, v = .ref a ∧ H a = some (.ins C dx fvs) ∧ ClsAt K c C ∧ RepF K A H fvs fds
  | d => RepV K A H v d
theorem RepV.sees {K : PySem.W.Frag} {A : Addr → Prop} {H : Hp} {v : V} {d : D} (h : RepV K A H v d) : Sees K A H v d := by
  cases h with
  | non => exact .non
  | bl b => exact .bl b
  | int i => exact .int i
  | str x => exact .str x
  | tup h r => exact .tup h r
  | lst h n r => exact ⟨_, _, rfl, h, r⟩
  | arg h => exact .arg h
  | tix h => exact .tix h
  | dct h n r => exact ⟨_, _, rfl, h, r⟩
  | raw v => exact .raw v
  | obj h n hc r => exact ⟨_, _, _, _, rfl, h, hc, r⟩
  | exc h1 h2 hc r => exact .exc h1 h2 hc r
  | fn h r => exact .fn h r
theorem OOk.sees {K : PySem.W.Frag} {A : Addr → Prop} {H : Hp} {a : Addr} {o : O} (h : OOk K A H a o) : Sees K A H (.ref a) o.d := by
  cases o with
  | lst ds => obtain ⟨xs, e, r⟩ := h; exact ⟨a, xs, rfl, e, r⟩
  | dct ds => obtain ⟨xs, e, r⟩ := h; exact ⟨a, xs, rfl, .inl e, r⟩
  | obj c ds => obtain ⟨C, dx, xs, e, hc, r⟩ := h; exact ⟨a, C, dx, xs, rfl, e, hc, r⟩
  | lck ds => exact h.elim
theorem OOkS.sees {K : PySem.W.Frag} {A : Addr → Prop} {H : Hp} {a : Addr} {o : O} (h : OOkS K A H a o) : Sees K A H (.ref a) o.d := by
  cases o with
  | lst ds => exact OOk.sees (o := .lst ds) h
  | dct ds => exact OOk.sees (o := .dct ds) h
  | obj c ds => exact OOk.sees (o := .obj c ds) h
  | lck ds => obtain ⟨ob, xs, e, r⟩ := h; exact ⟨a, xs, rfl, .inr ⟨ob, e⟩, r⟩
theorem Post.rep {K : PySem.W.Frag} {B : Addr → Prop} {ρ' : List Slot} {σ : St} {H H' : Hp} {s : Slot} {v : V} (h : Post K B ρ' σ H H' s v) : Rep K B ρ' σ H' := by
  cases s with
  | nil => exact h.elim
  | fro d => exact h.1
  | own b o =>
    obtain ⟨a, rfl, n, nb, R, q⟩ := h
    exact R.ex (Ex.refl H') fun x z => .inl (.inl z)
  | var i => exact h.1
  | «at» a => exact h.1
  | sto S => exact h.elim
  | bun d S => exact h.2.1.ex (Ex.refl H') fun x z => .inl (.inl z)
def Pend (K : PySem.W.Frag) (H0 : Hp) (B : Addr → Prop) (ρ : List Slot) (σ : St) (H : Hp) : Slot → V → Prop
  | .nil, _ => False
  | .fro d, v => RepV K (Av B ρ σ) H v d
  | .own _ o, v => ∃ a, v = .ref a ∧ B a ∧ H0 a = none ∧ OOk K (Av B ρ σ) H a o
  | .var i, v => σ[i]? = some (some v)
  | .at a, v => v = .ref a
  | .sto _, _ => False
  | .bun d S, v => (∀ a, S a ≠ none → H0 a = none ∧ B a) ∧ RepV K (Av B ρ σ) H v d ∧ ∀ a o, S a = some o → OOkS K (Av B ρ σ) H a o
theorem Post.pend {K : PySem.W.Frag} {B : Addr → Prop} {ρ' : List Slot} {σ : St} {H H' : Hp} {s : Slot} {v : V} (h : Post K B ρ' σ H H' s v) :
    ∃ B', (∀ a, B a → B' a) ∧ (∀ a, B' a → B a ∨ H a = none) ∧ Rep K B' ρ' σ H' ∧ Pend K H B' ρ' σ H' s v := by
  cases s with
  | nil => exact h.elim
  | fro d => exact ⟨B, fun _ z => z, fun _ z => .inl z, h.1, h.2⟩
  | own b o =>
    obtain ⟨a, rfl, n, nb, R, q⟩ := h
    exact ⟨_, fun _ z => .inl z, fun x z => z.elim .inl fun e => .inr (by rw [e]; exact n), R, a, rfl, .inr rfl, n, q⟩
  | var i => exact ⟨B, fun _ z => z, fun _ z => .inl z, h.1, h.2⟩
  | «at» a => exact ⟨B, fun _ z => z, fun _ z => .inl z, h.1, h.2⟩
  | sto S => exact h.elim
  | bun d S => exact ⟨_, fun _ z => .inl z, fun x z => z.imp id fun z => (h.1 x z).1, h.2.1, fun a z => ⟨(h.1 a z).1, .inr z⟩, h.2.2.1, h.2.2.2⟩
theorem Pend.step {K : PySem.W.Frag} {H0 : Hp} {B B' : Addr → Prop} {ρ ρ' : List Slot} {σ : St} {H H' : Hp} {s : Slot} {v : V} (h : Pend K H0 B ρ σ H s v) (R : Rep K B ρ σ H) (k : Kp (Own ρ σ) H H') (hs : Sub ρ' ρ)
    (hb : ∀ a, B a → B' a) (hb' : ∀ a, B' a → B a ∨ H a = none) : Pend K H0 B' ρ' σ H' s v := by
  have ha : ∀ a, Av B' ρ' σ a → Av B ρ σ a ∨ H a = none := fun a z => z.elim (fun z => .inl (.inl (hs.own a z))) fun z => (hb' a z).elim (fun z => .inl (.inr z)) .inr
  cases s with
  | nil => exact h
  | fro d => exact RepV.mono k (fun a z => .inl z) ha h
  | own b o =>
    obtain ⟨a, rfl, n, n0, q⟩ := h
    exact ⟨a, rfl, hb a n, n0, q.mono k (fun a z => .inl z) ha fun z => R.dis a z n⟩
  | var i => exact h
  | «at» a => exact h
  | sto S => exact h
  | bun d S => exact ⟨fun a z => ⟨(h.1 a z).1, hb a (h.1 a z).2⟩, RepV.mono k (fun a z => .inl z) ha h.2.1, fun a o z => (h.2.2 a o z).mono k (fun a z => .inl z) ha fun w => R.dis a w (h.1 a (by rw [z]; exact nofun)).2⟩
theorem Pend.start {K : PySem.W.Frag} {H0 H1 : Hp} {S : Addr → Prop} {B : Addr → Prop} {ρ : List Slot} {σ : St} {H : Hp} {s : Slot} {v : V} (h : Pend K H1 B ρ σ H s v) (k : Kp S H0 H1) : Pend K H0 B ρ σ H s v := by
  cases s with
  | nil => exact h
  | fro d => exact h
  | own b o => obtain ⟨a, rfl, n, n0, q⟩ := h; exact ⟨a, rfl, n, k.back n0, q⟩
  | var i => exact h
  | «at» a => exact h
  | sto S => exact h
  | bun d S => exact ⟨fun a z => ⟨k.back (h.1 a z).1, (h.1 a z).2⟩, h.2⟩
theorem Pend.sees {K : PySem.W.Frag} {H0 : Hp} {B : Addr → Prop} {ρ : List Slot} {σ : St} {H : Hp} {s : Slot} {v : V} {d : D} (h : Pend K H0 B ρ σ H s v) (R : Rep K B ρ σ H) (e : lookD ρ s = some d) : Sees K (Av B ρ σ) H v d := by
  cases s with
  | nil => cases e
  | fro d' => cases e; exact RepV.sees h
  | own b o => cases e; obtain ⟨a, rfl, n, n0, q⟩ := h; exact q.sees
  | var i =>
    have h2 : σ[i]? = some (some v) := h
    cases h1 : ρ[i]? with
    | none => rw [lookD, h1] at e; cases e
    | some t =>
      cases t with
      | own b o =>
        rw [lookD, h1] at e; cases e
        obtain ⟨a, e1, q⟩ := R.slot i _ h1
        rw [h2] at e1; cases e1
        exact q.sees
      | nil => rw [lookD, h1] at e; cases e
      | fro d' => rw [lookD, h1] at e; cases e
      | var j => rw [lookD, h1] at e; cases e
      | «at» a => rw [lookD, h1] at e; cases e
      | sto S => rw [lookD, h1] at e; cases e
      | bun d S => rw [lookD, h1] at e; cases e
  | «at» a =>
    have h2 : v = .ref a := h
    rw [lookD] at e
    cases g : gho ρ a with
    | none => rw [g] at e; cases e
    | some o =>
      rw [g] at e; cases e
      obtain ⟨i, S, h1, h3⟩ := gho_get g
      rw [h2]
      exact ((R.slot i _ h1).2 a o h3).sees
  | sto S => exact h.elim
  | bun d S => rw [lookD] at e; cases e
end Dl
namespace Dl
open PySem L2
variable [TabN]
theorem postF {K : PySem.W.Frag} {B : Addr → Prop} {ρ' : List Slot} {σ : L2.St} {H H' : Hp} {d : D} {v : V} (R : Rep K B ρ' σ H') (r : RepV K (Av B ρ' σ) H' v d) : Post K B ρ' σ H H' (.fro d) v := ⟨R, r⟩
theorem postV {K : PySem.W.Frag} {B : Addr → Prop} {ρ' : List Slot} {σ : L2.St} {H H' : Hp} {i : Nat} {v : V} (R : Rep K B ρ' σ H') (r : σ[i]? = some (some v)) : Post K B ρ' σ H H' (.var i) v := ⟨R, r⟩
theorem postO {K : PySem.W.Frag} {B : Addr → Prop} {ρ' : List Slot} {σ : L2.St} {H H' : Hp} {b : Bool} {o : O} {a : Addr} (n : H a = none) (nb : ¬ B a) (R : Rep K (fun x => B x ∨ x = a) ρ' σ H') (r : OOk K (Av (fun x => B x ∨ x = a) ρ' σ) H' a o) : Post K B ρ' σ H H' (.own b o) (.ref a) := ⟨a, rfl, n, nb, R, r⟩
theorem getElem?_set_of {α : Type} {l : List α} {i j : Nat} {x y : α} (h : (l.set i x)[j]? = some y) : (i = j ∧ y = x) ∨ (i ≠ j ∧ l[j]? = some y) := by
  by_cases e : i = j
  · subst e
    rw [List.getElem?_set_self'] at h
    cases q : l[i]? with
    | none => rw [q] at h; cases h
    | some z => rw [q] at h; cases h; exact .inl ⟨rfl, rfl⟩
  · rw [List.getElem?_set_ne e] at h
    exact .inr ⟨e, h⟩
theorem Rep.freeze {K : PySem.W.Frag} {B : Addr → Prop} {ρ : List Slot} {σ : L2.St} {H : Hp} {i : Nat} {o : O} (R : Rep K B ρ σ H) (h : ρ[i]? = some (.own false o)) :
    Rep K B (ρ.set i (.fro o.d)) σ H ∧ Sub (ρ.set i (.fro o.d)) ρ ∧ ∃ a, σ[i]? = some (some (.ref a)) ∧ RepV K (Av B (ρ.set i (.fro o.d)) σ) H (.ref a) o.d := by
  have sub : Sub (ρ.set i (.fro o.d)) ρ := ⟨fun j b' o' e => by
    rcases getElem?_set_of e with ⟨_, z⟩ | ⟨_, z⟩
    · cases z
    · exact ⟨o', z⟩, fun j o' e => ⟨o', by
    rw [List.getElem?_set_ne (fun z => by subst z; rw [h] at e; cases e)]; exact e⟩, fun j S e => by
    rcases getElem?_set_of e with ⟨_, z⟩ | ⟨_, z⟩
    · cases z
    · exact ⟨S, z, fun _ z => z⟩, fun j S e => ⟨S, by
    rw [List.getElem?_set_ne (fun z => by subst z; rw [h] at e; cases e)]; exact e⟩⟩
  obtain ⟨a, ea, q⟩ := R.slot i _ h
  have noA : ¬ Av B (ρ.set i (.fro o.d)) σ a := fun z => by
    rcases z with (⟨j, b', o', e1, e2⟩ | ⟨j, S, e1, e2⟩) | z
    · rcases getElem?_set_of e1 with ⟨_, z⟩ | ⟨n, z⟩
      · cases z
      · exact n (R.inj i j false o b' o' a h z ea e2)
    · rcases getElem?_set_of e1 with ⟨_, z⟩ | ⟨n, z⟩
      · cases z
      · exact e2 (R.snd j i S false o a z h ea)
    · exact R.dis a (.inl ⟨i, false, o, h, ea⟩) z
  have ha : ∀ x, Av B (ρ.set i (.fro o.d)) σ x → Av B ρ σ x ∨ H x = none := fun x z => .inl (z.elim (fun z => .inl (sub.own x z)) .inr)
  have rv : RepV K (Av B (ρ.set i (.fro o.d)) σ) H (.ref a) o.d := by
    cases o with
    | lst ds => obtain ⟨xs, e, r⟩ := q; exact .lst e noA (r.mono (S := fun _ => False) Kp.refl (fun _ z => z.elim) ha)
    | dct ds => obtain ⟨xs, e, r⟩ := q; exact .dct (.inl e) noA (r.mono (S := fun _ => False) Kp.refl (fun _ z => z.elim) ha)
    | obj c ds => obtain ⟨C, dx, xs, e, hc, r⟩ := q; exact .obj e noA hc (r.mono (S := fun _ => False) Kp.refl (fun _ z => z.elim) ha)
    | lck ds => exact q.elim
  refine ⟨⟨R.shp.sub (List.length_set) sub, fun j s e => ?_, R.btr, fun x z => R.dis x (sub.own x z), R.tabs⟩, sub, a, ea, rv⟩
  rcases getElem?_set_of e with ⟨rfl, rfl⟩ | ⟨n, z⟩
  · exact ⟨_, ea, rv⟩
  · have w := R.slot j s z
    cases s with
    | nil => trivial
    | fro d => obtain ⟨v, e1, r⟩ := w; exact ⟨v, e1, r.mono (S := fun _ => False) Kp.refl (fun _ z => z.elim) ha⟩
    | own b' o' => obtain ⟨v, e1, r⟩ := w; exact ⟨v, e1, r.mono (S := fun _ => False) Kp.refl (fun _ z => z.elim) ha (fun z => z)⟩
    | var k => exact w
    | «at» k => exact w
    | bun d S => exact w
    | sto S => exact ⟨w.1, fun x o z => (w.2 x o z).mono (S := fun _ => False) Kp.refl (fun _ z => z.elim) ha (fun z => z)⟩
def frz (ρ : List Slot) : Slot → (D → List Slot → Prop) → Prop
  | .nil, _ => False
  | .fro d, k => k d ρ
  | .own _ o, k => k o.d ρ
  | .var i, k => match ρ[i]? with
    | some (.own false o) => k o.d (ρ.set i (.fro o.d))
    | some (.fro d) => k d ρ
    | _ => False
  | .at a, k => k (.raw (.ref a)) ρ
  | .sto _, _ => False
  | .bun _ _, _ => False
def frzL (ρ : List Slot) : List Slot → (List D → List Slot → Prop) → Prop
  | [], k => k [] ρ
  | s :: ss, k => frz ρ s fun d ρ1 => frzL ρ1 ss fun ds ρ2 => k (d :: ds) ρ2
theorem Rep.fewer {K : PySem.W.Frag} {B B0 : Addr → Prop} {ρ : List Slot} {σ : L2.St} {H : Hp} (R : Rep K B ρ σ H) (h : ∀ a, B0 a → B a) : Rep K B0 ρ σ H := R.ex (Ex.refl H) fun a z => .inl (h a z)
theorem RepV.av {K : PySem.W.Frag} {A A' : Addr → Prop} {H : Hp} {v : V} {d : D} (r : RepV K A H v d) (h : ∀ a, A' a → A a) : RepV K A' H v d := r.mono (S := fun _ => False) Kp.refl (fun _ z => z.elim) fun a z => .inl (h a z)
theorem RepL.av {K : PySem.W.Frag} {A A' : Addr → Prop} {H : Hp} {v : List V} {d : List D} (r : RepL K A H v d) (h : ∀ a, A' a → A a) : RepL K A' H v d := r.mono (S := fun _ => False) Kp.refl (fun _ z => z.elim) fun a z => .inl (h a z)
theorem RepK.av {K : PySem.W.Frag} {A A' : Addr → Prop} {H : Hp} {v : List (Key × V)} {d : List (Key × D)} (r : RepK K A H v d) (h : ∀ a, A' a → A a) : RepK K A' H v d := r.mono (S := fun _ => False) Kp.refl (fun _ z => z.elim) fun a z => .inl (h a z)
theorem RepF.av {K : PySem.W.Frag} {A A' : Addr → Prop} {H : Hp} {v : List (Str × V)} {d : List (Str × D)} (r : RepF K A H v d) (h : ∀ a, A' a → A a) : RepF K A' H v d := r.mono (S := fun _ => False) Kp.refl (fun _ z => z.elim) fun a z => .inl (h a z)
theorem OOkS.av {K : PySem.W.Frag} {A A' : Addr → Prop} {H : Hp} {a : Addr} {o : O} (r : OOkS K A H a o) (h : ∀ a, A' a → A a) : OOkS K A' H a o := r.mono (S := fun _ => False) Kp.refl (fun _ z => z.elim) (fun a z => .inl (h a z)) fun z => z
theorem OOk.av {K : PySem.W.Frag} {A A' : Addr → Prop} {H : Hp} {a : Addr} {o : O} (r : OOk K A H a o) (h : ∀ a, A' a → A a) : OOk K A' H a o := r.mono (S := fun _ => False) Kp.refl (fun _ z => z.elim) (fun a z => .inl (h a z)) fun z => z
section
variable {K : PySem.W.Frag} {H0 : Hp} {B B0 : Addr → Prop} {ρ : List Slot} {σ : L2.St} {H : Hp}
theorem frz_ok {s : Slot} {v : V} {k : D → List Slot → Prop} (R : Rep K B ρ σ H) (p : Pend K H0 B ρ σ H s v) (h0 : ∀ a, B0 a → B a) (ht : ∀ a, B0 a → H0 a ≠ none) (h : frz ρ s k) :
    ∃ d ρ', k d ρ' ∧ Rep K B ρ' σ H ∧ Sub ρ' ρ ∧ RepV K (Av B0 ρ' σ) H v d := by
  cases s with
  | nil => exact h.elim
  | fro d => exact ⟨d, ρ, h, R, Sub.refl ρ, RepV.av p fun a z => z.elim .inl fun z => .inr (h0 a z)⟩
  | own b o =>
    obtain ⟨a, rfl, n, n0, q⟩ := p
    refine ⟨o.d, ρ, h, R, Sub.refl ρ, ?_⟩
    have noA : ¬ Av B0 ρ σ a := fun z => z.elim (fun z => R.dis a z n) fun z => ht a z n0
    have hh : ∀ x, Av B0 ρ σ x → Av B ρ σ x := fun x z => z.elim .inl fun z => .inr (h0 x z)
    cases o with
    | lst ds => obtain ⟨xs, e, r⟩ := q; exact .lst e noA (r.av hh)
    | dct ds => obtain ⟨xs, e, r⟩ := q; exact .dct (.inl e) noA (r.av hh)
    | obj c ds => obtain ⟨C, dx, xs, e, hc, r⟩ := q; exact .obj e noA hc (r.av hh)
    | lck ds => exact q.elim
  | var i =>
    have p' : σ[i]? = some (some v) := p
    have h : (match ρ[i]? with
      | some (.own false o) => k o.d (ρ.set i (.fro o.d))
      | some (.fro d) => k d ρ
      | _ => False) := h
    cases e : ρ[i]? with
    | none => rw [e] at h; exact h.elim
    | some t =>
      rw [e] at h
      cases t with
      | nil => exact h.elim
      | fro d =>
        obtain ⟨v', e1, r⟩ := R.slot i _ e
        rw [p'] at e1; cases e1
        exact ⟨d, ρ, h, R, Sub.refl ρ, r.av fun a z => z.elim .inl fun z => .inr (h0 a z)⟩
      | own b o =>
        cases b with
        | true => exact h.elim
        | false =>
          obtain ⟨R', sub, a, ea, rv⟩ := R.freeze e
          rw [p'] at ea; cases ea
          exact ⟨_, _, h, R', sub, rv.av fun a z => z.elim .inl fun z => .inr (h0 a z)⟩
      | var j => exact h.elim
      | «at» a => exact h.elim
      | sto S => exact h.elim
      | bun d S => exact h.elim
  | «at» a => obtain rfl : v = .ref a := p; exact ⟨_, ρ, h, R, Sub.refl ρ, .raw _⟩
  | sto S => exact h.elim
  | bun d S => exact h.elim
def PendL (K : PySem.W.Frag) (H0 : Hp) (B : Addr → Prop) (ρ : List Slot) (σ : L2.St) (H : Hp) : List Slot → List V → Prop
  | [], [] => True
  | s :: ss, v :: vs => Pend K H0 B ρ σ H s v ∧ PendL K H0 B ρ σ H ss vs
  | _, _ => False
theorem PendL.step {B' : Addr → Prop} {ρ' : List Slot} {H' : Hp} (R : Rep K B ρ σ H) (k : Kp (Own ρ σ) H H') (hs : Sub ρ' ρ) (hb : ∀ a, B a → B' a) (hb' : ∀ a, B' a → B a ∨ H a = none) :
    ∀ {ss : List Slot} {vs : List V}, PendL K H0 B ρ σ H ss vs → PendL K H0 B' ρ' σ H' ss vs
  | [], [], _ => trivial
  | _ :: _, _ :: _, h => ⟨h.1.step R k hs hb hb', PendL.step R k hs hb hb' h.2⟩
  | [], _ :: _, h => h.elim
  | _ :: _, [], h => h.elim
theorem PendL.start {H1 : Hp} {S : Addr → Prop} (k : Kp S H0 H1) : ∀ {ss : List Slot} {vs : List V}, PendL K H1 B ρ σ H ss vs → PendL K H0 B ρ σ H ss vs
  | [], [], _ => trivial
  | _ :: _, _ :: _, h => ⟨h.1.start k, PendL.start k h.2⟩
  | [], _ :: _, h => h.elim
  | _ :: _, [], h => h.elim
theorem frzL_ok (h0 : ∀ a, B0 a → B a) (ht : ∀ a, B0 a → H0 a ≠ none) : ∀ {ss : List Slot} {vs : List V} {ρ : List Slot} {k : List D → List Slot → Prop}, Rep K B ρ σ H → PendL K H0 B ρ σ H ss vs → frzL ρ ss k →
    ∃ ds ρ', k ds ρ' ∧ Rep K B ρ' σ H ∧ Sub ρ' ρ ∧ RepL K (Av B0 ρ' σ) H vs ds
  | [], [], ρ, k, R, _, h => ⟨[], ρ, h, R, Sub.refl ρ, .nil⟩
  | s :: ss, v :: vs, ρ, k, R, p, h => by
    obtain ⟨d, ρ1, h1, R1, s1, r1⟩ := frz_ok R p.1 h0 ht h
    obtain ⟨ds, ρ2, h2, R2, s2, r2⟩ := frzL_ok h0 ht R1 (p.2.step R Kp.refl s1 (fun _ z => z) fun _ z => .inl z) h1
    exact ⟨d :: ds, ρ2, h2, R2, s1.trans s2, .cons (r1.av fun a z => z.elim (fun z => .inl (s2.own a z)) .inr) r2⟩
  | [], _ :: _, _, _, _, p, _ => p.elim
  | _ :: _, [], _, _, _, p, _ => p.elim
end
def New (K : PySem.W.Frag) (A : Addr → Prop) (H H' : Hp) : Slot → V → Prop
  | .fro d, v => RepV K A H' v d
  | .own _ o, v => ∃ a, v = .ref a ∧ H a = none ∧ OOk K (fun x => A x ∨ x = a) H' a o
  | _, _ => False
theorem New.post {K : PySem.W.Frag} {B B2 S : Addr → Prop} {ρ2 : List Slot} {σ : L2.St} {H H2 H' : Hp} {s : Slot} {v : V} (n : New K (Av B2 ρ2 σ) H2 H' s v) (R : Rep K B2 ρ2 σ H2) (hb : ∀ a, B a → B2 a) (k : Kp S H H2) (e : Ex H2 H') :
    Post K B ρ2 σ H H' s v := by
  have hh : ∀ x, Av B ρ2 σ x → Av B2 ρ2 σ x := fun x z => z.elim .inl fun z => .inr (hb x z)
  cases s with
  | nil => exact n.elim
  | fro d => exact ⟨R.ex e fun a z => .inl (hb a z), RepV.av n hh⟩
  | own b o =>
    obtain ⟨a, rfl, na, q⟩ := n
    refine ⟨a, rfl, k.back na, fun z => R.btr a (hb a z) na, R.ex e fun x z => z.elim (fun z => .inl (hb x z)) fun z => .inr ?_, q.av fun x z => ?_⟩
    · subst z; exact ⟨na, q.trk⟩
    · rcases z with z | z | z
      · exact .inl (.inl z)
      · exact .inl (.inr (hb x z))
      · exact .inr z
  | var i => exact n.elim
  | «at» a => exact n.elim
  | sto S => exact n.elim
  | bun d S => exact n.elim
def wArgs : List WE → List Slot → (List Slot → List Slot → Prop) → Prop
  | [], ρ, k => k [] ρ
  | w :: ws, ρ, k => w ρ fun s ρ1 => wArgs ws ρ1 fun ss ρ2 => k (s :: ss) ρ2
def taOf (K : PySem.W.Frag) (ws : List WE) : TA := fun σ H Q => ∃ (B : Addr → Prop) (ρ : List Slot) (Q' : List Slot → List Slot → Prop), Rep K B ρ σ H ∧ wArgs ws ρ Q' ∧
  ∀ ss vs ρ' (B' : Addr → Prop) H', (∀ a, B a → B' a) → (∀ a, B' a → B a ∨ H a = none) → Rep K B' ρ' σ H' → PendL K H B' ρ' σ H' ss vs → Sub ρ' ρ → Kp (Own ρ σ) H H' → Q' ss ρ' → Q vs H'
def MA (X : Cx) (es : List Expr) (ws : List WE) : Prop := PA X es (taOf X.K ws)
theorem ma_nil {X : Cx} : MA X [] [] := PA_weak pa_nil fun σ H Q ⟨B, ρ, Q', R, hw, hq⟩ =>
  hq [] [] ρ B H (fun _ z => z) (fun _ z => .inl z) R trivial (Sub.refl ρ) Kp.refl hw
theorem ma_cons {X : Cx} {e : Expr} {es : List Expr} {w : WE} {ws : List WE} (he : ME X e w) (hr : MA X es ws) (hs : starEach (e :: es) X.env = (false, eval e X.env) :: starEach es X.env := by rfl) : MA X (e :: es) (w :: ws) :=
  PA_weak (pa_cons he hr hs) fun σ H Q ⟨B, ρ, Q', R, hw, hq⟩ => by
    refine ⟨B, ρ, _, R, hw, fun s v ρ1 H1 post sub kp hw1 => ?_⟩
    obtain ⟨B1, b1, b1', R1, P1⟩ := post.pend
    refine ⟨B1, ρ1, _, R1, hw1, fun ss vs ρ2 B2 H2 b2 b2' R2 P2 sub2 kp2 q => ?_⟩
    refine hq (s :: ss) (v :: vs) ρ2 B2 H2 (fun a z => b2 a (b1 a z)) (fun a z => ?_) R2 ⟨P1.step R1 kp2 sub2 b2 b2', P2.start kp⟩ (sub.trans sub2) (kp.trans kp2 fun a z => sub.own a z) q
    rcases b2' a z with z | z
    · exact b1' a z
    · exact .inr (kp.back z)
def lookL (ρ : List Slot) : List Slot → Option (List D)
  | [] => some []
  | s :: ss => match lookD ρ s with
    | none => none
    | some d => match lookL ρ ss with
      | none => none
      | some ds => some (d :: ds)
def SeesL (K : PySem.W.Frag) (A : Addr → Prop) (H : Hp) : List V → List D → Prop
  | [], [] => True
  | v :: vs, d :: ds => Sees K A H v d ∧ SeesL K A H vs ds
  | _, _ => False
theorem PendL.sees {K : PySem.W.Frag} {H0 : Hp} {B : Addr → Prop} {ρ : List Slot} {σ : L2.St} {H : Hp} (R : Rep K B ρ σ H) : ∀ {ss : List Slot} {vs : List V} {ds : List D}, PendL K H0 B ρ σ H ss vs → lookL ρ ss = some ds → SeesL K (Av B ρ σ) H vs ds
  | [], [], ds, _, e => by cases e; trivial
  | s :: ss, v :: vs, ds, p, e => by
    unfold lookL at e
    cases e1 : lookD ρ s with
    | none => rw [e1] at e; cases e
    | some d =>
      rw [e1] at e
      cases e2 : lookL ρ ss with
      | none => rw [e2] at e; cases e
      | some ds' =>
        rw [e2] at e
        cases e
        exact ⟨p.1.sees R e1, PendL.sees R p.2 e2⟩
  | [], _ :: _, _, p, _ => p.elim
  | _ :: _, [], _, p, _ => p.elim
def withL (ρ : List Slot) (ss : List Slot) (k : List D → Prop) : Prop := match lookL ρ ss with
  | some ds => k ds
  | none => False
def rC (K : PySem.W.Frag) (g : List D → (Slot → Prop) → Prop) : List V → Hp → VK → Prop := fun vs H Q => ∃ (A : Addr → Prop) (ds : List D) (k : Slot → Prop), SeesL K A H vs ds ∧ (∀ a, A a → H a ≠ none) ∧ g ds k ∧
  ∀ s v H', Ex H H' → New K A H H' s v → k s → Q v H'
def CallD (X : Cx) (f : Value) (g : List D → (Slot → Prop) → Prop) : Prop := CallR X f (rC X.K g)
def wCB (g : List D → (Slot → Prop) → Prop) (ws : List WE) : WE := fun ρ Q => wArgs ws ρ fun ss ρ' => withL ρ' ss fun ds => g ds fun s => Q s ρ'
theorem wCB_ok {K : PySem.W.Frag} {g : List D → (Slot → Prop) → Prop} {ws : List WE} {B : Addr → Prop} {ρ : List Slot} {σ : L2.St} {H : Hp} {Q' : Slot → List Slot → Prop} {Q : VK} (R : Rep K B ρ σ H) (hw : wCB g ws ρ Q')
    (hq : ∀ s v ρ' H', Post K B ρ' σ H H' s v → Sub ρ' ρ → Kp (Own ρ σ) H H' → Q' s ρ' → Q v H') : taOf K ws σ H fun vs H1 => rC K g vs H1 Q := by
  refine ⟨B, ρ, _, R, hw, fun ss vs ρ2 B2 H2 b2 b2' R2 P2 sub kp q => ?_⟩
  unfold withL at q
  cases e : lookL ρ2 ss with
  | none => rw [e] at q; exact q.elim
  | some ds =>
    rw [e] at q
    exact ⟨_, ds, _, P2.sees R2 e, fun a z => R2.av_trk z, q, fun s v H' ex n h => hq s v ρ2 H' (n.post R2 b2 kp ex) sub (kp.trans ex.kp fun _ z => z) h⟩
section
variable {X : Cx} {x : Str} {p pos : Pos} {e : Expr} {es : List Expr} {ws : List WE} {id T : String} {g : List D → (Slot → Prop) → Prop}
theorem me_callB (hc : CallD X (.builtin id) g) (hg : Gl X x) (hm : X.mg x = none) (hv : bootBuiltins x = some (.builtin id)) (ha : MA X (e :: es) ws) (hn : x ≠ "__name__" := by decide) (hdb : (x == ("__debug__" : Str)) = false := by decide)
    (he : starEach (e :: es) X.env = (false, eval e X.env) :: starEach es X.env := by rfl) (hpl : (backTo pos (starEach es X.env)).any (·.1) = false := by rfl) : ME X (.Call (.Name x p) (e :: es) [] pos) (wCB g ws) :=
  me_of (pe_callB hc hg hm hv ha hn hdb he hpl) fun B ρ σ H Q' Q R hw hq => wCB_ok R hw hq
theorem me_callT (hc : CallD X (.type T) g) (hg : Gl X x) (hm : X.mg x = none) (hv : bootBuiltins x = some (.type T)) (ha : MA X (e :: es) ws) (hn : x ≠ "__name__" := by decide) (hdb : (x == ("__debug__" : Str)) = false := by decide)
    (he : starEach (e :: es) X.env = (false, eval e X.env) :: starEach es X.env := by rfl) (hpl : (backTo pos (starEach es X.env)).any (·.1) = false := by rfl) : ME X (.Call (.Name x p) (e :: es) [] pos) (wCB g ws) :=
  me_of (pe_callTy hc hg hm hv ha hn hdb he hpl) fun B ρ σ H Q' Q R hw hq => wCB_ok R hw hq
end
theorem seq2 {K : PySem.W.Frag} {w1 w2 : WE} {B : Addr → Prop} {ρ : List Slot} {σ : L2.St} {H : Hp} {P : Slot → Slot → List Slot → Prop} {R : V → V → Hp → Prop} (R0 : Rep K B ρ σ H)
    (hw : w1 ρ fun s1 ρ1 => w2 ρ1 fun s2 ρ2 => P s1 s2 ρ2)
    (k : ∀ s1 s2 x y ρ2 (B2 : Addr → Prop) H2, (∀ a, B a → B2 a) → (∀ a, B2 a → B a ∨ H a = none) → Rep K B2 ρ2 σ H2 → Pend K H B2 ρ2 σ H2 s1 x → Pend K H B2 ρ2 σ H2 s2 y → Sub ρ2 ρ → Kp (Own ρ σ) H H2 → P s1 s2 ρ2 → R x y H2) :
    tOf K w1 σ H fun x H1 => tOf K w2 σ H1 fun y H2 => R x y H2 := by
  refine ⟨B, ρ, _, R0, hw, fun s1 x ρ1 H1 post sub kp hw1 => ?_⟩
  obtain ⟨B1, b1, b1', R1, P1⟩ := post.pend
  refine ⟨B1, ρ1, _, R1, hw1, fun s2 y ρ2 H2 post2 sub2 kp2 q => ?_⟩
  obtain ⟨B2, b2, b2', R2, P2⟩ := post2.pend
  refine k s1 s2 x y ρ2 B2 H2 (fun a z => b2 a (b1 a z)) (fun a z => ?_) R2 (P1.step R1 kp2 sub2 b2 b2') (P2.start kp) (sub.trans sub2) (kp.trans kp2 fun a z => sub.own a z) q
  rcases b2' a z with z | z
  · exact b1' a z
  · exact .inr (kp.back z)
def with2 (ρ : List Slot) (s1 s2 : Slot) (k : D → D → Prop) : Prop := match lookD ρ s1 with
  | some a => match lookD ρ s2 with
    | some b => k a b
    | none => False
  | none => False
theorem with2_get {ρ : List Slot} {s1 s2 : Slot} {k : D → D → Prop} (h : with2 ρ s1 s2 k) : ∃ a b, lookD ρ s1 = some a ∧ lookD ρ s2 = some b ∧ k a b := by
  unfold with2 at h
  cases e1 : lookD ρ s1 with
  | none => rw [e1] at h; exact h.elim
  | some a =>
    rw [e1] at h
    cases e2 : lookD ρ s2 with
    | none => rw [e2] at h; exact h.elim
    | some b => rw [e2] at h; exact ⟨a, b, rfl, rfl, h⟩
def rD (K : PySem.W.Frag) (g : D → D → (Slot → Prop) → Prop) : R2 := fun x y H Q => ∃ (A : Addr → Prop) (d e : D) (k : Slot → Prop), Sees K A H x d ∧ Sees K A H y e ∧ (∀ a, A a → H a ≠ none) ∧ g d e k ∧
  ∀ s v H', Ex H H' → New K A H H' s v → k s → Q v H'
def OpD (X : Cx) (f : Value → Value → Sem Value) (g : D → D → (Slot → Prop) → Prop) : Prop := OpR X f (rD X.K g)
def wOp (g : D → D → (Slot → Prop) → Prop) (w1 w2 : WE) : WE := fun ρ Q => w1 ρ fun s1 ρ1 => w2 ρ1 fun s2 ρ2 => with2 ρ2 s1 s2 fun a b => g a b fun s => Q s ρ2
theorem wOp_ok {K : PySem.W.Frag} {g : D → D → (Slot → Prop) → Prop} {w1 w2 : WE} {B : Addr → Prop} {ρ : List Slot} {σ : L2.St} {H : Hp} {Q' : Slot → List Slot → Prop} {Q : VK} (R : Rep K B ρ σ H) (hw : wOp g w1 w2 ρ Q')
    (hq : ∀ s v ρ' H', Post K B ρ' σ H H' s v → Sub ρ' ρ → Kp (Own ρ σ) H H' → Q' s ρ' → Q v H') : tOp (rD K g) (tOf K w1) (tOf K w2) σ H Q := by
  refine seq2 R hw fun s1 s2 x y ρ2 B2 H2 b2 b2' R2 P1 P2 sub kp q => ?_
  obtain ⟨a, b, e1, e2, q⟩ := with2_get q
  exact ⟨_, a, b, _, P1.sees R2 e1, P2.sees R2 e2, fun a z => R2.av_trk z, q, fun s v H' ex n h => hq s v ρ2 H' (n.post R2 b2 kp ex) sub (kp.trans ex.kp fun _ z => z) h⟩
section
variable {X : Cx} {a b c : Expr} {pos : Pos} {w1 w2 w3 : WE} {g g' : D → D → (Slot → Prop) → Prop}
theorem me_op {op : Operator} (ho : OpD X (binaryOp op) g) (ha : ME X a w1) (hb : ME X b w2) : ME X (.BinOp a op b pos) (wOp g w1 w2) :=
  me_of (pe_op ho ha hb) fun B ρ σ H Q' Q R hw hq => wOp_ok R hw hq
theorem me_cmp {op : CmpOp} (ho : OpD X (compareOp op) g) (ha : ME X a w1) (hb : ME X b w2) (hm : behindInMarks op b = false) : ME X (.Compare a [op] [b] pos) (wOp g w1 w2) :=
  me_of (pe_cmpR ho ha hb hm) fun B ρ σ H Q' Q R hw hq => wOp_ok R hw hq
def wB (w : WE) : WT := fun ρ Q => w ρ fun s ρ' => match s with
  | .fro (.bl b) => Q b ρ'
  | _ => False
theorem wB_ok {K : PySem.W.Frag} {w : WE} {B : Addr → Prop} {ρ : List Slot} {σ : L2.St} {H : Hp} {Q' : Bool → List Slot → Prop} {Q : Bool → Hp → Prop} (R : Rep K B ρ σ H) (hw : wB w ρ Q')
    (hq : ∀ b ρ' H', Rep K B ρ' σ H' → Sub ρ' ρ → Kp (Own ρ σ) H H' → Q' b ρ' → Q b H') : tOf K w σ H fun x H1 => ∃ k, x = .bl k ∧ Q k H1 := by
  refine ⟨B, ρ, _, R, hw, fun s v ρ' H' post sub kp q => ?_⟩
  cases s with
  | fro d =>
    cases d with
    | bl b => obtain ⟨R', r⟩ := post; cases r; exact ⟨b, rfl, hq b ρ' H' R' sub kp q⟩
    | _ => exact q.elim
  | _ => exact q.elim
theorem mt_cmp {op : CmpOp} (ho : OpD X (compareOp op) g) (ha : ME X a w1) (hb : ME X b w2) (hm : behindInMarks op b = false) : MT X (.Compare a [op] [b] pos) (wB (wOp g w1 w2)) :=
  mt_of (pt_cmpR ho ha hb hm) fun B ρ σ H Q' Q R hw hq => by
    refine wOp_ok R hw fun s v ρ' H' post sub kp q => ?_
    cases s with
    | fro d =>
      cases d with
      | bl b => obtain ⟨R', r⟩ := post; cases r; exact ⟨b, rfl, hq b ρ' H' R' sub kp q⟩
      | _ => exact q.elim
    | _ => exact q.elim
theorem mt_val (h : ME X a w1) (he : ∀ whole, isTrue a X.env whole = (do let v ← whole; standAt a.pos; holding [v] (truthy v)) := by intro _; rfl) : MT X a (wB w1) :=
  mt_of (pt_val h he) fun B ρ σ H Q' Q R hw hq => wB_ok R hw hq
def wNot (w : WT) : WT := fun ρ Q => w ρ fun b ρ' => Q (!b) ρ'
def wAnd (w1 w2 : WT) : WT := fun ρ Q => w1 ρ fun b ρ' => if b = true then w2 ρ' Q else Q false ρ'
def wOr (w1 w2 : WT) : WT := fun ρ Q => w1 ρ fun b ρ' => if b = true then Q true ρ' else w2 ρ' Q
variable {t1 t2 : WT} {rest : List Expr}
theorem mt_not (h : MT X a t1) : MT X (.UnaryOp .Not a pos) (wNot t1) :=
  mt_of (pt_not h) fun B ρ σ H Q' Q R hw hq => ⟨B, ρ, _, R, hw, fun b ρ' H' R' sub kp q => hq _ ρ' H' R' sub kp q⟩
theorem mw_and1 (h : MT X a t1) : MW X (.BoolOp .And [a] pos) t1 := pw_and1 h
theorem mw_and (ha : MT X a t1) (hb : MW X (.BoolOp .And (b :: rest) pos) t2) : MW X (.BoolOp .And (a :: b :: rest) pos) (wAnd t1 t2) :=
  PW_weak (pw_and ha hb) fun σ H Q ⟨B, ρ, Q', R, hw, hq⟩ => by
    refine ⟨B, ρ, _, R, hw, fun b ρ' H' R' sub kp q => ?_⟩
    cases b with
    | true => exact ⟨B, ρ', Q', R', q, fun b ρ2 H2 R2 sub2 kp2 q2 => hq b ρ2 H2 R2 (sub.trans sub2) (kp.trans kp2 fun a z => sub.own a z) q2⟩
    | false => exact hq false ρ' H' R' sub kp q
theorem mw_pt {e : Expr} {t : WT} (h : MW X e t) : MT X e t := PW.pt h
def wAndV (w1 w2 : WE) : WE := fun ρ Q => wB w1 ρ fun b ρ' => if b = true then w2 ρ' Q else Q (.fro (.bl false)) ρ'
def wOrV (w1 w2 : WE) : WE := fun ρ Q => wB w1 ρ fun b ρ' => if b = true then Q (.fro (.bl true)) ρ' else w2 ρ' Q
def wNotV (w1 : WE) : WE := fun ρ Q => wB w1 ρ fun b ρ' => Q (.fro (.bl (!b))) ρ'
theorem Post.up {K : PySem.W.Frag} {B S : Addr → Prop} {ρ' : List Slot} {σ : L2.St} {H H1 H' : Hp} {s : Slot} {v : V} (h : Post K B ρ' σ H1 H' s v) (k : Kp S H H1) : Post K B ρ' σ H H' s v := by
  cases s with
  | nil => exact h
  | fro d => exact h
  | own b o => obtain ⟨a, rfl, n, nb, R, q⟩ := h; exact ⟨a, rfl, k.back n, nb, R, q⟩
  | var i => exact h
  | «at» a => exact h
  | sto S => exact h
  | bun d S => exact ⟨fun a z => ⟨k.back (h.1 a z).1, (h.1 a z).2⟩, h.2⟩
theorem me_one {op} (h : ME X a w1) : ME X (.BoolOp op [a] pos) w1 := pe_one h
theorem me_and (ha : ME X a w1) (hb : ME X (.BoolOp .And (b :: rest) pos) w2) : ME X (.BoolOp .And (a :: b :: rest) pos) (wAndV w1 w2) :=
  me_of (pe_and ha hb) fun B ρ σ H Q' Q R hw hq => by
    refine wB_ok R hw fun b ρ' H' R' sub kp q => ?_
    cases b with
    | true => exact ⟨B, ρ', Q', R', q, fun s v ρ2 H2 post sub2 kp2 q2 => hq s v ρ2 H2 (post.up kp) (sub.trans sub2) (kp.trans kp2 fun a z => sub.own a z) q2⟩
    | false => exact hq _ _ ρ' H' (postF R' (.bl false)) sub kp q
theorem me_or (ha : ME X a w1) (hb : ME X (.BoolOp .Or (b :: rest) pos) w2) : ME X (.BoolOp .Or (a :: b :: rest) pos) (wOrV w1 w2) :=
  me_of (pe_or ha hb) fun B ρ σ H Q' Q R hw hq => by
    refine wB_ok R hw fun b ρ' H' R' sub kp q => ?_
    cases b with
    | false => exact ⟨B, ρ', Q', R', q, fun s v ρ2 H2 post sub2 kp2 q2 => hq s v ρ2 H2 (post.up kp) (sub.trans sub2) (kp.trans kp2 fun a z => sub.own a z) q2⟩
    | true => exact hq _ _ ρ' H' (postF R' (.bl true)) sub kp q
theorem me_not (ha : ME X a w1) : ME X (.UnaryOp .Not a pos) (wNotV w1) :=
  me_of (pe_not ha) fun B ρ σ H Q' Q R hw hq => wB_ok R hw fun b ρ' H' R' sub kp q => hq _ _ ρ' H' (postF R' (.bl _)) sub kp q
def wIf (t : WT) (w1 w2 : WE) : WE := fun ρ Q => t ρ fun b ρ' => if b = true then w1 ρ' Q else w2 ρ' Q
theorem me_if {c : Expr} (hc : MT X c t1) (ha : ME X a w1) (hb : ME X b w2) : ME X (.IfExp c a b pos) (wIf t1 w1 w2) :=
  me_of (pe_ifExp hc ha hb) fun B ρ σ H Q' Q R hw hq => by
    refine ⟨B, ρ, _, R, hw, fun b ρ' H' R' sub kp q => ?_⟩
    cases b with
    | true => exact ⟨B, ρ', Q', R', q, fun s v ρ2 H2 post sub2 kp2 q2 => hq s v ρ2 H2 (post.up kp) (sub.trans sub2) (kp.trans kp2 fun a z => sub.own a z) q2⟩
    | false => exact ⟨B, ρ', Q', R', q, fun s v ρ2 H2 post sub2 kp2 q2 => hq s v ρ2 H2 (post.up kp) (sub.trans sub2) (kp.trans kp2 fun a z => sub.own a z) q2⟩
def wVar (i : Nat) : WE := fun ρ Q => match ρ[i]? with
  | some (.fro d) => Q (.fro d) ρ
  | some (.own _ _) => Q (.var i) ρ
  | _ => False
def wC (d : D) : WE := fun ρ Q => Q (.fro d) ρ
theorem me_var {i : Nat} {e : Expr} (h : PE X e (tVar i)) : ME X e (wVar i) := me_of h fun B ρ σ H Q' Q R hw hq => by
  unfold wVar at hw
  cases e : ρ[i]? with
  | none => rw [e] at hw; exact hw.elim
  | some s =>
    rw [e] at hw
    cases s with
    | nil => exact hw.elim
    | fro d => obtain ⟨v, e1, r⟩ := R.slot i _ e; exact ⟨v, e1, hq _ _ ρ H (postF R r) (Sub.refl ρ) Kp.refl hw⟩
    | own b o => obtain ⟨a, e1, r⟩ := R.slot i _ e; exact ⟨_, e1, hq _ _ ρ H (postV R e1) (Sub.refl ρ) Kp.refl hw⟩
    | var j => exact hw.elim
    | «at» j => exact hw.elim
    | sto j => exact hw.elim
    | bun j S => exact hw.elim
theorem me_c {v : V} {d : D} (h : PE X a (tC v)) (r : ∀ A H, RepV X.K A H v d) : ME X a (wC d) := me_of h fun B ρ σ H Q' Q R hw hq => hq _ _ ρ H (postF R (r _ _)) (Sub.refl ρ) Kp.refl hw
theorem me_int {i : Int} {j : Nat} : ME X (.Constant (.int i) j pos) (wC (.int i)) := me_c pe_int fun _ _ => .int i
theorem me_bl {i : Bool} {j : Nat} : ME X (.Constant (.bool i) j pos) (wC (.bl i)) := me_c pe_bl fun _ _ => .bl i
theorem me_non {j : Nat} : ME X (.Constant .none j pos) (wC .non) := me_c pe_non fun _ _ => .non
def wTup (ws : List WE) : WE := fun ρ Q => wArgs ws ρ fun ss ρ' => frzL ρ' ss fun ds ρ2 => ds.length ≤ sizeLine ∧ Q (.fro (.tup ds)) ρ2
def wLst (ws : List WE) : WE := fun ρ Q => wArgs ws ρ fun ss ρ' => frzL ρ' ss fun ds ρ2 => ds.length ≤ sizeLine ∧ Q (.own false (.lst ds)) ρ2
theorem args_frz {K : PySem.W.Frag} {ws : List WE} {B : Addr → Prop} {ρ : List Slot} {σ : L2.St} {H : Hp} {P : List D → List Slot → Prop} {Q : List V → Hp → Prop} (R : Rep K B ρ σ H) (hw : wArgs ws ρ fun ss ρ' => frzL ρ' ss P)
    (hq : ∀ ds vs ρ' H', Rep K B ρ' σ H' → RepL K (Av B ρ' σ) H' vs ds → Sub ρ' ρ → Kp (Own ρ σ) H H' → P ds ρ' → Q vs H') : taOf K ws σ H Q := by
  refine ⟨B, ρ, _, R, hw, fun ss vs ρ2 B2 H2 b2 b2' R2 P2 sub kp q => ?_⟩
  obtain ⟨ds, ρ3, h, R3, s3, r3⟩ := frzL_ok (B0 := B) b2 R.btr R2 P2 q
  exact hq ds vs ρ3 H2 (R3.fewer b2) r3 (sub.trans s3) kp h
theorem me_tup {es : List Expr} {ws : List WE} {x1} (h : MA X es ws) : ME X (.Tuple es x1 pos) (wTup ws) := me_of (pe_tup h) fun B ρ σ H Q' Q R hw hq => by
  refine args_frz R hw fun ds vs ρ' H' R' r sub kp ⟨z, q⟩ => ⟨by rw [r.length]; exact z, fun p np => ?_⟩
  have e := Ex.new (o := HO.tup vs) np
  exact hq _ _ ρ' _ (postF (R'.ex e fun _ z => .inl z) (.tup (SqT.of upd_same) (r.mono (S := fun _ => False) e.kp (fun _ z => z.elim) fun _ z => .inl z))) sub (kp.trans e.kp fun _ z => z) q
theorem me_lst {es : List Expr} {ws : List WE} (h : MA X es ws) : ME X (.List es pos) (wLst ws) := me_of (pe_lst h) fun B ρ σ H Q' Q R hw hq => by
  refine args_frz R hw fun ds vs ρ' H' R' r sub kp ⟨z, q⟩ => ⟨by rw [r.length]; exact z, fun p np => ?_⟩
  have e := Ex.new (o := HO.lst vs) np
  refine hq _ _ ρ' _ (postO (b := false) (o := .lst ds) (kp.back np) (fun z => R'.btr p z np) (R'.ex e fun x z => z.elim .inl fun z => .inr ?_) ⟨vs, upd_same, r.mono (S := fun _ => False) e.kp (fun _ z => z.elim) fun x z => ?_⟩) sub (kp.trans e.kp fun _ z => z) q
  · subst z; exact ⟨np, by rw [upd_same]; exact nofun⟩
  · rcases z with z | z | z
    · exact .inl (.inl z)
    · exact .inl (.inr z)
    · subst z; exact .inr np
end
end Dl
namespace Dl
open PySem L2
variable [TabN]
structure DEnds where
  nx : List Slot → Prop
  rt : Slot → List Slot → Prop
  bk : List Slot → Prop
  ct : List Slot → Prop
abbrev WS := DEnds → List Slot → Prop
structure LT where
  l : Nat → Addr → Prop
  s : Nat → Addr → Prop
  t : Nat → Prop
def ltOf (ρ : List Slot) (σ : L2.St) : LT := ⟨fun i a => (∃ o : O, ρ[i]? = some (.own true o)) ∧ σ[i]? = some (some (.ref a)), fun i a => ∃ S : Addr → Option O, ρ[i]? = some (.sto S) ∧ S a ≠ none, fun i => ∃ S : Addr → Option O, ρ[i]? = some (.sto S)⟩
def LT.pin (L : LT) (ρ : List Slot) : LT := ⟨L.l, fun i a => ∃ S : Addr → Option O, ρ[i]? = some (.sto S) ∧ S a ≠ none, L.t⟩
structure Fr (H0 : Hp) (L : LT) (ρ : List Slot) (σ : L2.St) (H : Hp) : Prop where
  keep : ∀ a o, H0 a = some o → (∀ i, ¬ L.l i a ∧ ¬ L.s i a) → ∀ (_ : ¬ isTbl o := by exact fun z => z), H a = some o
  imm : ∀ a o, H0 a = some o → isImm o → H a = some o
  trk : ∀ a, H0 a ≠ none → H a ≠ none
  ownf : ∀ (i : Nat) (o : O) (a : Addr), ρ[i]? = some (.own false o) → σ[i]? = some (some (.ref a)) → H0 a = none
  lent : ∀ (i : Nat) (a : Addr), L.l i a ↔ (∃ o : O, ρ[i]? = some (.own true o)) ∧ σ[i]? = some (some (.ref a))
  sto : ∀ (i : Nat) (S : Addr → Option O) (a : Addr), ρ[i]? = some (.sto S) → S a ≠ none → L.s i a ∨ H0 a = none
  stl : ∀ (i : Nat), L.t i ↔ ∃ S : Addr → Option O, ρ[i]? = some (.sto S)
theorem Fr.step {H0 : Hp} {L : LT} {ρ ρ' : List Slot} {σ : L2.St} {H H' : Hp} (F : Fr H0 L ρ σ H) (k : Kp (Own ρ σ) H H') (s : Sub ρ' ρ) : Fr H0 L ρ' σ H' where
  keep := fun a o e n t => k.keep a o (F.keep a o e n t) (fun w => by
    rcases w with ⟨i, b, o', e1, e2⟩ | ⟨i, S, e1, e2⟩
    · cases b with
      | true => exact (n i).1 ((F.lent i a).2 ⟨⟨o', e1⟩, e2⟩)
      | false => have z := F.ownf i o' a e1 e2; rw [e] at z; cases z
    · exact (F.sto i S a e1 e2).elim (n i).2 fun z => (by rw [e] at z; cases z)) t
  imm := fun a o e i => k.imm a o (F.imm a o e i) i
  trk := fun a e => k.trk a (F.trk a e)
  ownf := fun i o a e1 e2 => by
    obtain ⟨o', h⟩ := s.old i false o e1
    exact F.ownf i o' a h e2
  lent := fun i a => by
    rw [F.lent i a]
    exact ⟨fun ⟨⟨o, h⟩, e⟩ => ⟨s.lent i o h, e⟩, fun ⟨⟨o, h⟩, e⟩ => ⟨s.old i true o h, e⟩⟩
  sto := fun i S a e1 e2 => by
    obtain ⟨S', h1, h2⟩ := s.sto i S e1
    exact F.sto i S' a h1 (h2 a e2)
  stl := fun i => by
    rw [F.stl i]
    exact ⟨fun ⟨S, h⟩ => s.stl i S h, fun ⟨S, h⟩ => let ⟨S', h', _⟩ := s.sto i S h; ⟨S', h'⟩⟩
structure EndsOk (K : PySem.W.Frag) (B : Addr → Prop) (H0 : Hp) (L : LT) (KD : DEnds) (D : Ends) : Prop where
  nx : ∀ ρ σ H, Rep K B ρ σ H → Fr H0 L ρ σ H → KD.nx ρ → D.nx σ H
  bk : ∀ ρ σ H, Rep K B ρ σ H → Fr H0 L ρ σ H → KD.bk ρ → D.bk σ H
  ct : ∀ ρ σ H, Rep K B ρ σ H → Fr H0 L ρ σ H → KD.ct ρ → D.ct σ H
  rt : ∀ s v ρ σ H1 H, Post K B ρ σ H1 H s v → Fr H0 L ρ σ H → (∀ a, H0 a ≠ none → H1 a ≠ none) → KD.rt s ρ → D.rt v H
def sOf (K : PySem.W.Frag) (w : WS) : TS := fun D σ H => ∃ (B : Addr → Prop) (H0 : Hp) (L : LT) (ρ : List Slot) (KD : DEnds), Rep K B ρ σ H ∧ Fr H0 L ρ σ H ∧ w KD ρ ∧ EndsOk K B H0 L KD D
def MS (X : Cx) (st : Stmt) (w : WS) : Prop := PS X st (sOf X.K w)
def MSs (X : Cx) (sts : List Stmt) (w : WS) : Prop := PSs X sts (sOf X.K w)
theorem ms_of {X : Cx} {st : Stmt} {t : TS} {w : WS} (h : PS X st t)
    (k : ∀ (B : Addr → Prop) (H0 : Hp) (L : LT) (ρ : List Slot) (σ : L2.St) (H : Hp) (KD : DEnds) (D : Ends), Rep X.K B ρ σ H → Fr H0 L ρ σ H → w KD ρ → EndsOk X.K B H0 L KD D → t D σ H) : MS X st w :=
  PS_weak h fun D σ H ⟨B, H0, L, ρ, KD, R, F, hw, e⟩ => k B H0 L ρ σ H KD D R F hw e
def wNext : WS := fun KD ρ => KD.nx ρ
def wBrk : WS := fun KD ρ => KD.bk ρ
def wCnt : WS := fun KD ρ => KD.ct ρ
def wSeq (w1 w2 : WS) : WS := fun KD ρ => w1 { KD with nx := fun ρ' => w2 KD ρ' } ρ
def wIfS (t : WT) (w1 w2 : WS) : WS := fun KD ρ => t ρ fun b ρ' => if b = true then w1 KD ρ' else w2 KD ρ'
def wRet (w : WE) : WS := fun KD ρ => w ρ KD.rt
def wDrop (w : WE) : WS := fun KD ρ => w ρ fun _ ρ' => KD.nx ρ'
section
variable {X : Cx} {st : Stmt} {rest : List Stmt} {w1 w2 : WS} {e c : Expr} {w : WE} {t : WT} {pos : Pos}
theorem mss_nil : MSs X [] wNext := PSs_weak pss_nil fun D σ H ⟨B, H0, L, ρ, KD, R, F, hw, e⟩ => e.nx ρ σ H R F hw
theorem mss_cons (h1 : MS X st w1) (h2 : MSs X rest w2) : MSs X (st :: rest) (wSeq w1 w2) :=
  PSs_weak (pss_cons h1 h2) fun D σ H ⟨B, H0, L, ρ, KD, R, F, hw, e⟩ =>
    ⟨B, H0, L, ρ, _, R, F, hw, ⟨fun ρ' σ' H' R' F' h => ⟨B, H0, L, ρ', KD, R', F', h, e⟩, e.bk, e.ct, e.rt⟩⟩
theorem mss_one (h1 : MS X st w1) : MSs X [st] w1 := pss_one h1
theorem ms_ret (he : ME X e w) : MS X (.Return (some e) pos) (wRet w) := ms_of (ps_ret he) fun B H0 L ρ σ H KD D R F hw en =>
  ⟨B, ρ, _, R, hw, fun s v ρ' H' post sub kp q => en.rt s v ρ' σ H H' post (F.step kp sub) F.trk q⟩
theorem ms_expr (he : ME X e w) (hs : swapsWith e none pos.line X.env = pure false := by rfl) : MS X (.Expr e pos) (wDrop w) := ms_of (ps_expr he hs) fun B H0 L ρ σ H KD D R F hw en =>
  ⟨B, ρ, _, R, hw, fun s v ρ' H' post sub kp q => en.nx ρ' σ H' post.rep (F.step kp sub) q⟩
theorem ms_if {a b : List Stmt} (hc : MT X c t) (ha : MSs X a w1) (hb : MSs X b w2) : MS X (.If c a b pos) (wIfS t w1 w2) := ms_of (ps_if hc ha hb) fun B H0 L ρ σ H KD D R F hw en => by
  refine ⟨B, ρ, _, R, hw, fun b ρ' H' R' sub kp q => ?_⟩
  cases b with
  | true => exact ⟨B, H0, L, ρ', KD, R', F.step kp sub, q, en⟩
  | false => exact ⟨B, H0, L, ρ', KD, R', F.step kp sub, q, en⟩
end
def notLent (ρ : List Slot) (i : Nat) : Prop := match ρ[i]? with
  | some (.own true _) => False
  | some (.sto _) => False
  | some _ => True
  | none => False
theorem notLent_lt {ρ : List Slot} {i : Nat} (h : notLent ρ i) : i < ρ.length := by
  unfold notLent at h
  cases e : ρ[i]? with
  | none => rw [e] at h; exact h.elim
  | some s => exact (List.getElem?_eq_some_iff.mp e).1
theorem notLent_sto {ρ : List Slot} {i : Nat} {S : Addr → Option O} (h : notLent ρ i) (e : ρ[i]? = some (.sto S)) : False := by
  unfold notLent at h; rw [e] at h; exact h
def hasS : List Slot → Prop
  | [] => False
  | .sto _ :: _ => True
  | _ :: ρ => hasS ρ
theorem notLent_no {ρ : List Slot} {i : Nat} {o : O} (h : notLent ρ i) (e : ρ[i]? = some (.own true o)) : False := by
  unfold notLent at h; rw [e] at h; exact h
def prep (ρ : List Slot) : Slot → (Slot → List Slot → Prop) → Prop
  | .var j, k => frz ρ (.var j) fun d ρ' => k (.fro d) ρ'
  | .nil, _ => False
  | .fro d, k => k (.fro d) ρ
  | .own b o, k => k (.own b o) ρ
  | .at a, k => k (.fro (.raw (.ref a))) ρ
  | .sto _, _ => False
  | .bun _ _, _ => False
def put (i : Nat) (ρ : List Slot) : Slot → (List Slot → Prop) → Prop
  | .fro d, k => notLent ρ i ∧ k (ρ.set i (.fro d))
  | .own _ o, k => notLent ρ i ∧ k (ρ.set i (.own false o))
  | _, _ => False
section
variable {K : PySem.W.Frag} {Hs H0 : Hp} {B : Addr → Prop} {ρ : List Slot} {σ : L2.St} {H : Hp} {L : LT} {i : Nat} {v : V}
theorem set_self {σ : L2.St} {x : Option V} (h : i < σ.length) : (σ.set i x)[i]? = some x := by
  rw [List.getElem?_set_self h]
theorem Rep.nl (R : Rep K B ρ σ H) (h : notLent ρ i) : i < σ.length := by
  have hi := notLent_lt h
  rcases R.tail i _ (List.getElem?_eq_getElem hi) with z | ⟨S, z⟩
  · exact z
  · exact (notLent_sto h (by rw [List.getElem?_eq_getElem hi, z])).elim
theorem Shape.set (h : Shape ρ σ) (hi : i < σ.length) {s : Slot} {x : Option V} (hs : ∀ T, s ≠ .sto T)
    (no : ∀ (b : Bool) (o : O) (a : Addr), s = .own b o → x = some (.ref a) → ¬ Own ρ σ a) : Shape (ρ.set i s) (σ.set i x) := by
  have own : ∀ (j : Nat) (b : Bool) (o : O) (a : Addr), (ρ.set i s)[j]? = some (.own b o) → (σ.set i x)[j]? = some (some (.ref a)) → (i = j ∧ s = .own b o ∧ x = some (.ref a)) ∨ (i ≠ j ∧ ρ[j]? = some (.own b o) ∧ σ[j]? = some (some (.ref a))) := fun j b o a e1 e2 => by
    rcases getElem?_set_of e1 with ⟨rfl, z⟩ | ⟨n, z⟩
    · rw [set_self hi] at e2; cases e2; exact .inl ⟨rfl, z.symm, rfl⟩
    · rw [List.getElem?_set_ne n] at e2; exact .inr ⟨n, z, e2⟩
  have sto : ∀ (j : Nat) (T : Addr → Option O), (ρ.set i s)[j]? = some (.sto T) → ρ[j]? = some (.sto T) := fun j T e => by
    rcases getElem?_set_of e with ⟨_, z⟩ | ⟨_, z⟩
    · exact absurd z.symm (hs T)
    · exact z
  refine ⟨by rw [List.length_set, List.length_set]; exact h.len, fun j t e => ?_, fun j k b o b' o' a e1 e2 e3 e4 => ?_, fun j k S b o a e1 e2 e3 => ?_, fun j k S T e1 e2 => h.one j k S T (sto j S e1) (sto k T e2)⟩
  · rw [List.length_set]
    rcases getElem?_set_of e with ⟨rfl, z⟩ | ⟨_, z⟩
    · exact .inl hi
    · exact h.tail j t z
  · rcases own j b o a e1 e3 with ⟨rfl, z1, z2⟩ | ⟨_, z1, z2⟩
    · rcases own k b' o' a e2 e4 with ⟨rfl, _, _⟩ | ⟨_, y1, y2⟩
      · rfl
      · exact (no b o a z1 z2 (.inl ⟨k, b', o', y1, y2⟩)).elim
    · rcases own k b' o' a e2 e4 with ⟨rfl, y1, y2⟩ | ⟨_, y1, y2⟩
      · exact (no b' o' a y1 y2 (.inl ⟨j, b, o, z1, z2⟩)).elim
      · exact h.inj j k b o b' o' a z1 y1 z2 y2
  · rcases own k b o a e2 e3 with ⟨rfl, z1, z2⟩ | ⟨_, z1, z2⟩
    · cases e : S a with
      | none => rfl
      | some u => exact (no b o a z1 z2 (.inr ⟨j, S, sto j S e1, by rw [e]; exact nofun⟩)).elim
    · exact h.snd j k S b o a (sto j S e1) z1 z2
theorem own_putF {d : D} {a : Addr} (z : Own (ρ.set i (.fro d)) (σ.set i (some v)) a) : Own ρ σ a := by
  rcases z with ⟨j, b, o, e1, e2⟩ | ⟨j, S, e1, e2⟩
  · rcases getElem?_set_of e1 with ⟨_, z⟩ | ⟨n, z⟩
    · cases z
    · rw [List.getElem?_set_ne n] at e2; exact .inl ⟨j, b, o, z, e2⟩
  · rcases getElem?_set_of e1 with ⟨_, z⟩ | ⟨n, z⟩
    · cases z
    · exact .inr ⟨j, S, z, e2⟩
theorem own_putO {o : O} {a x : Addr} (hi : i < σ.length) (z : Own (ρ.set i (.own false o)) (σ.set i (some (.ref a))) x) : x = a ∨ Own ρ σ x := by
  rcases z with ⟨j, b, o', e1, e2⟩ | ⟨j, S, e1, e2⟩
  · rcases getElem?_set_of e1 with ⟨rfl, z⟩ | ⟨n, z⟩
    · rw [set_self hi] at e2; cases e2; exact .inl rfl
    · rw [List.getElem?_set_ne n] at e2; exact .inr (.inl ⟨j, b, o', z, e2⟩)
  · rcases getElem?_set_of e1 with ⟨_, z⟩ | ⟨n, z⟩
    · cases z
    · exact .inr (.inr ⟨j, S, z, e2⟩)
theorem Rep.putF {d : D} (R : Rep K B ρ σ H) (r : RepV K (Av B ρ σ) H v d) (h : notLent ρ i) : Rep K B (ρ.set i (.fro d)) (σ.set i (some v)) H := by
  have hi := R.nl h
  have av : ∀ a, Av B (ρ.set i (.fro d)) (σ.set i (some v)) a → Av B ρ σ a := fun a z => z.elim (fun z => .inl (own_putF z)) .inr
  refine ⟨R.shp.set hi nofun nofun, fun j s e => ?_, R.btr, fun a z => R.dis a (own_putF z), R.tabs⟩
  rcases getElem?_set_of e with ⟨rfl, rfl⟩ | ⟨n, z⟩
  · exact ⟨v, set_self hi, r.av av⟩
  · rw [List.getElem?_set_ne n]
    exact (R.slot j s z).av av
theorem Fr.putF {d : D} (F : Fr H0 L ρ σ H) (h : notLent ρ i) : Fr H0 L (ρ.set i (.fro d)) (σ.set i (some v)) H where
  keep := fun a o e n t => F.keep a o e n t
  imm := F.imm
  trk := F.trk
  ownf := fun j o a e1 e2 => by
    rcases getElem?_set_of e1 with ⟨_, z⟩ | ⟨n, z⟩
    · cases z
    · rw [List.getElem?_set_ne n] at e2; exact F.ownf j o a z e2
  lent := fun j a => by
    rw [F.lent j a]
    by_cases n : i = j
    · subst n
      constructor
      · rintro ⟨⟨o, e⟩, _⟩; exact (notLent_no h e).elim
      · rintro ⟨⟨o, e⟩, _⟩
        rcases getElem?_set_of e with ⟨_, z⟩ | ⟨n, _⟩
        · cases z
        · exact absurd rfl n
    · rw [List.getElem?_set_ne n, List.getElem?_set_ne n]
  sto := fun j S a e1 e2 => by
    rcases getElem?_set_of e1 with ⟨_, z⟩ | ⟨n, z⟩
    · cases z
    · exact F.sto j S a z e2
  stl := fun j => by
    rw [F.stl j]
    by_cases n : i = j
    · subst n
      constructor
      · rintro ⟨S, e⟩; exact (notLent_sto h e).elim
      · rintro ⟨S, e⟩
        rcases getElem?_set_of e with ⟨_, z⟩ | ⟨n, _⟩
        · cases z
        · exact absurd rfl n
    · rw [List.getElem?_set_ne n]
theorem Rep.putO {o : O} {a : Addr} (R : Rep K B ρ σ H) (hb : B a) (r : OOk K (Av B ρ σ) H a o) (h : notLent ρ i) : Rep K (fun x => B x ∧ x ≠ a) (ρ.set i (.own false o)) (σ.set i (some (.ref a))) H := by
  have hi := R.nl h
  have av : ∀ x, Av (fun x => B x ∧ x ≠ a) (ρ.set i (.own false o)) (σ.set i (some (.ref a))) x → Av B ρ σ x := fun x z => z.elim (fun z => (own_putO hi z).elim (fun e => .inr (by rw [e]; exact hb)) .inl) fun z => .inr z.1
  refine ⟨R.shp.set hi nofun fun b o' y e1 e2 z => ?_, fun j s e => ?_, fun x z => R.btr x z.1, fun x z w => ?_, R.tabs⟩
  · cases e2; exact R.dis a z hb
  · rcases getElem?_set_of e with ⟨rfl, rfl⟩ | ⟨n, z⟩
    · exact ⟨a, set_self hi, r.av av⟩
    · rw [List.getElem?_set_ne n]
      exact (R.slot j s z).av av
  · rcases own_putO hi z with e | z
    · exact w.2 e
    · exact R.dis x z w.1
theorem Fr.putO {o : O} {a : Addr} (F : Fr H0 L ρ σ H) (n0 : H0 a = none) (hl : i < σ.length) (h : notLent ρ i) : Fr H0 L (ρ.set i (.own false o)) (σ.set i (some (.ref a))) H where
  keep := fun a o e n t => F.keep a o e n t
  imm := F.imm
  trk := F.trk
  ownf := fun j o' x e1 e2 => by
    rcases getElem?_set_of e1 with ⟨rfl, z⟩ | ⟨n, z⟩
    · rw [set_self hl] at e2; cases e2; exact n0
    · rw [List.getElem?_set_ne n] at e2; exact F.ownf j o' x z e2
  lent := fun j x => by
    rw [F.lent j x]
    by_cases n : i = j
    · subst n
      constructor
      · rintro ⟨⟨o, e⟩, _⟩; exact (notLent_no h e).elim
      · rintro ⟨⟨o, e⟩, _⟩
        rcases getElem?_set_of e with ⟨_, z⟩ | ⟨n, _⟩
        · cases z
        · exact absurd rfl n
    · rw [List.getElem?_set_ne n, List.getElem?_set_ne n]
  sto := fun j S a e1 e2 => by
    rcases getElem?_set_of e1 with ⟨_, z⟩ | ⟨n, z⟩
    · cases z
    · exact F.sto j S a z e2
  stl := fun j => by
    rw [F.stl j]
    by_cases n : i = j
    · subst n
      constructor
      · rintro ⟨S, e⟩; exact (notLent_sto h e).elim
      · rintro ⟨S, e⟩
        rcases getElem?_set_of e with ⟨_, z⟩ | ⟨n, _⟩
        · cases z
        · exact absurd rfl n
    · rw [List.getElem?_set_ne n]
theorem prep_ok {B0 : Addr → Prop} {s : Slot} {k : Slot → List Slot → Prop} (R : Rep K B ρ σ H) (p : Pend K Hs B ρ σ H s v) (h : prep ρ s k) :
    ∃ s' ρ', k s' ρ' ∧ Rep K B ρ' σ H ∧ Sub ρ' ρ ∧ Pend K Hs B ρ' σ H s' v ∧ (∀ j, s' ≠ .var j) ∧ (∀ b o, s' = .own b o → s = .own b o) ∧ (∀ d S, s' ≠ .bun d S) := by
  cases s with
  | nil => exact h.elim
  | fro d => exact ⟨.fro d, ρ, h, R, Sub.refl ρ, p, nofun, fun b o z => z, nofun⟩
  | own b o => exact ⟨.own b o, ρ, h, R, Sub.refl ρ, p, nofun, fun b o z => z, nofun⟩
  | var j =>
    have p' : Pend K H B ρ σ H (.var j) v := p
    have h' : frz ρ (.var j) fun d ρ' => k (.fro d) ρ' := h
    obtain ⟨d, ρ', q, R', sub, r⟩ := frz_ok (B0 := B) (H0 := H) R p' (fun _ z => z) R.btr h'
    exact ⟨.fro d, ρ', q, R', sub, r, nofun, nofun, nofun⟩
  | «at» a => obtain rfl : v = .ref a := p; exact ⟨.fro _, ρ, h, R, Sub.refl ρ, .raw _, nofun, (fun b o z => by cases z), nofun⟩
  | sto S => exact h.elim
  | bun d S => exact h.elim
theorem put_ok {s : Slot} {k : List Slot → Prop} (R : Rep K B ρ σ H) (F : Fr H0 L ρ σ H) (p : Pend K Hs B ρ σ H s v) (hs : ∀ a, Hs a = none → H0 a = none) (h : put i ρ s k) :
    ∃ (B' : Addr → Prop) (ρ' : List Slot), k ρ' ∧ Rep K B' ρ' (σ.set i (some v)) H ∧ Fr H0 L ρ' (σ.set i (some v)) H ∧ (∀ a, B' a → B a) ∧ (∀ a, B a → B' a ∨ Hs a = none) ∧
      ∀ s2 v2, Pend K Hs B ρ σ H s2 v2 → (∀ j, s2 ≠ .var j) → (∀ b o b' o', s = .own b o → s2 = .own b' o' → v ≠ v2) → (∀ d S, s2 ≠ .bun d S) → Pend K Hs B' ρ' (σ.set i (some v)) H s2 v2 := by
  cases s with
  | nil => exact h.elim
  | var j => exact h.elim
  | «at» j => exact h.elim
  | sto j => exact h.elim
  | bun d S => exact h.elim
  | fro d =>
    obtain ⟨h1, h2⟩ := h
    refine ⟨B, _, h2, R.putF p h1, F.putF h1, fun _ z => z, fun _ z => .inl z, fun s2 v2 p2 nv _ nb => ?_⟩
    have av : ∀ a, Av B (ρ.set i (.fro d)) (σ.set i (some v)) a → Av B ρ σ a := fun a z => z.elim (fun z => .inl (own_putF z)) .inr
    cases s2 with
    | nil => exact p2
    | fro d2 => exact RepV.av p2 av
    | own b2 o2 => obtain ⟨a, rfl, n1, n2, q⟩ := p2; exact ⟨a, rfl, n1, n2, q.av av⟩
    | var j => exact absurd rfl (nv j)
    | «at» j => exact p2
    | sto j => exact p2
    | bun d S => exact absurd rfl (nb d S)
  | own b o =>
    obtain ⟨a, rfl, n, n0, q⟩ := p
    obtain ⟨h1, h2⟩ := h
    refine ⟨_, _, h2, R.putO n q h1, F.putO (hs a n0) (R.nl h1) h1, fun _ z => z.1, fun x z => ?_, fun s2 v2 p2 nv nd nb => ?_⟩
    · by_cases e : x = a
      · subst e; exact .inr n0
      · exact .inl ⟨z, e⟩
    · have av : ∀ x, Av (fun x => B x ∧ x ≠ a) (ρ.set i (.own false o)) (σ.set i (some (.ref a))) x → Av B ρ σ x := fun x z => z.elim (fun z => (own_putO (R.nl h1) z).elim (fun z => by rw [z]; exact .inr n) .inl) fun z => .inr z.1
      cases s2 with
      | nil => exact p2
      | fro d2 => exact RepV.av p2 av
      | own b2 o2 => obtain ⟨a2, rfl, m1, m2, q2⟩ := p2; exact ⟨a2, rfl, ⟨m1, fun e => nd b o b2 o2 rfl rfl (by rw [e])⟩, m2, q2.av av⟩
      | var j => exact absurd rfl (nv j)
      | «at» j => exact p2
      | sto j => exact p2
      | bun d S => exact absurd rfl (nb d S)
end
def wSet (i : Nat) (w : WE) : WS := fun KD ρ => w ρ fun s ρ1 => prep ρ1 s fun s' ρ2 => put i ρ2 s' KD.nx
theorem wSet_ok {K : PySem.W.Frag} {i : Nat} {w : WE} {B : Addr → Prop} {H0 : Hp} {L : LT} {ρ : List Slot} {σ : L2.St} {H : Hp} {KD : DEnds} {Q : L2.St → Hp → Prop} (R : Rep K B ρ σ H) (F : Fr H0 L ρ σ H) (hw : wSet i w KD ρ)
    (hq : ∀ ρ σ H, Rep K B ρ σ H → Fr H0 L ρ σ H → KD.nx ρ → Q σ H) : tOf K w σ H fun x H1 => Q (σ.set i (some x)) H1 := by
  refine ⟨B, ρ, _, R, hw, fun s v ρ1 H1 post sub kp q => ?_⟩
  obtain ⟨B1, b1, b1', R1, P1⟩ := post.pend
  obtain ⟨s', ρ2, q2, R2, sub2, P2, _, _, _⟩ := prep_ok (B0 := B) R1 P1 q
  obtain ⟨B3, ρ3, q3, R3, F3, c1, c2, _⟩ := put_ok R2 ((F.step kp sub).step Kp.refl sub2) P2 (fun a z => by
    cases e : H0 a with
    | none => rfl
    | some o => exact absurd z (F.trk a (by rw [e]; exact nofun))) q2
  refine hq ρ3 _ H1 (R3.fewer fun a z => ?_) F3 q3
  rcases c2 a (b1 a z) with z' | z'
  · exact z'
  · exact absurd z' (R.btr a z)
section
variable {X : Cx} {e : Expr} {w : WE} {pos : Pos}
theorem ms_set {i : Nat} {x : Str} {pos' : Pos} (hN : X.N.Nodup) (hi : X.N[i]? = some x) (hx : Loc X.env.scope x) (he : ME X e w) (hs : swapsWith e (some (.Name x pos')) pos.line X.env = pure false := by rfl) (hf : X.fn x = true ∨ X.env.scope.names.lookup x = some .local := by first | exact .inl rfl | exact .inr rfl | assumption) :
    MS X (.Assign [.Name x pos'] e pos) (wSet i w) := ms_of (ps_set hN hi hx he hs hf) fun B H0 L ρ σ H KD D R F hw en => wSet_ok R F hw en.nx
end
def Hold : Slot → Prop
  | .own _ _ => True
  | .sto _ => True
  | _ => False
abbrev WG := D → List Slot → (List Slot → Prop) → Prop
def gOf (K : PySem.W.Frag) (js : List Nat) (g : WG) : TG := fun v σ H Q => ∃ (B : Addr → Prop) (H0 : Hp) (L : LT) (ρ : List Slot) (d : D) (k : List Slot → Prop), Rep K B ρ σ H ∧ Fr H0 L ρ σ H ∧ RepV K (Av B ρ σ) H v d ∧ g d ρ k ∧
  ∀ ρ' σ', Rep K B ρ' σ' H → Fr H0 L ρ' σ' H → (∀ j, j ∉ js → σ'[j]? = σ[j]? ∧ ρ'[j]? = ρ[j]?) → (∀ (j : Nat) (s : Slot), Hold s → j ∈ js → ρ'[j]? ≠ some s) → σ'.length = σ.length → k ρ' → Q σ' H
def MG (X : Cx) (tg : Expr) (js : List Nat) (g : WG) : Prop := PG X tg (gOf X.K js g)
theorem PG_weak {X : Cx} {e : Expr} {t t' : TG} (h : PG X e t) (k : ∀ v σ H Q, t' v σ H Q → t v σ H Q) : PG X e t' := ⟨fun pins s σ H v u Q I r q => h.run pins s σ H v u Q I r (k v σ H Q q)⟩
def gNm (i : Nat) : WG := fun d ρ k => notLent ρ i ∧ k (ρ.set i (.fro d))
def gNms : List Nat → List D → List Slot → (List Slot → Prop) → Prop
  | [], [], ρ, k => k ρ
  | i :: is, d :: ds, ρ, k => gNm i d ρ fun ρ' => gNms is ds ρ' k
  | _, _, _, _ => False
def gTp (is : List Nat) : WG := fun d ρ k => match d with
  | .tup ds => gNms is ds ρ k
  | .lst ds => gNms is ds ρ k
  | _ => False
theorem PG_or {X : Cx} {e : Expr} {t t' : TG} (h : PG X e t) (h' : PG X e t') : PG X e (fun v σ H Q => t v σ H Q ∨ t' v σ H Q) := ⟨fun pins s σ H v u Q I r q => q.elim (h.run pins s σ H v u Q I r) (h'.run pins s σ H v u Q I r)⟩
def gsOf (K : PySem.W.Frag) (is : List Nat) : TGs := fun vs σ H Q => ∃ (B : Addr → Prop) (H0 : Hp) (L : LT) (ρ : List Slot) (ds : List D) (k : List Slot → Prop), Rep K B ρ σ H ∧ Fr H0 L ρ σ H ∧ RepL K (Av B ρ σ) H vs ds ∧ gNms is ds ρ k ∧
  ∀ ρ' σ', Rep K B ρ' σ' H → Fr H0 L ρ' σ' H → (∀ j, j ∉ is → σ'[j]? = σ[j]? ∧ ρ'[j]? = ρ[j]?) → (∀ (j : Nat) (s : Slot), Hold s → j ∈ is → ρ'[j]? ≠ some s) → σ'.length = σ.length → k ρ' → Q σ' H
theorem set_fro_no {ρ : List Slot} {i : Nat} {d : D} {s : Slot} (h : Hold s) : (ρ.set i (.fro d))[i]? ≠ some s := fun z => by
  rcases getElem?_set_of z with ⟨_, z⟩ | ⟨n, _⟩
  · subst z; exact h
  · exact n rfl
theorem av_putF {B : Addr → Prop} {ρ : List Slot} {σ : L2.St} {i : Nat} {d : D} {v : V} (a : Addr) (z : Av B (ρ.set i (.fro d)) (σ.set i (some v)) a) : Av B ρ σ a := z.elim (fun z => .inl (own_putF z)) .inr
section
variable {X : Cx} {pos : Pos}
theorem mg_name {i : Nat} {x : Str} (hN : X.N.Nodup) (hi : X.N[i]? = some x) (hx : Loc X.env.scope x) (hf : X.fn x = true ∨ X.env.scope.names.lookup x = some .local := by first | exact .inl rfl | exact .inr rfl | assumption) : MG X (.Name x pos) [i] (gNm i) :=
  PG_weak (pg_name hN hi hx hf) fun v σ H Q ⟨B, H0, L, ρ, d, k, R, F, r, ⟨g1, g2⟩, hq⟩ =>
    hq _ _ (R.putF r g1) (F.putF g1) (fun j hj => by
      have n : i ≠ j := fun z => hj (by subst z; simp)
      rw [List.getElem?_set_ne n, List.getElem?_set_ne n]; exact ⟨rfl, rfl⟩) (fun j s hs hj => by
      obtain rfl : j = i := by simpa using hj
      exact set_fro_no hs) (by rw [List.length_set]) g2
structure MGs (X : Cx) (ts : List Expr) (is : List Nat) : Prop where
  run : PGs X ts (gsOf X.K is)
theorem mgs_nil : MGs X [] [] := ⟨⟨fun pins s σ H vs us Q I r h => (pgs_nil).run pins s σ H vs us Q I r (by
  obtain ⟨B, H0, L, ρ, ds, k, R, F, rl, g, hq⟩ := h
  cases rl with
  | nil => exact ⟨rfl, hq ρ σ R F (fun _ _ => ⟨rfl, rfl⟩) (fun j s hs hj => by cases hj) rfl g⟩
  | cons _ _ => exact g.elim)⟩⟩
theorem mgs_cons {x : Str} {i : Nat} {ts : List Expr} {is : List Nat} (hN : X.N.Nodup) (hi : X.N[i]? = some x) (hx : Loc X.env.scope x) (hr : MGs X ts is) (hf : X.fn x = true ∨ X.env.scope.names.lookup x = some .local := by first | exact .inl rfl | exact .inr rfl | assumption)
    (hs : (assignEach (.Name x pos :: ts) X.env).map (·.2) = assign (.Name x pos) X.env :: (assignEach ts X.env).map (·.2) := by rfl) : MGs X (.Name x pos :: ts) (i :: is) :=
  ⟨⟨fun pins s σ H vs us Q I r h => (pgs_cons (pg_name hN hi hx hf) hr.run hs).run pins s σ H vs us Q I r (by
    obtain ⟨B, H0, L, ρ, ds, k, R, F, rl, g, hq⟩ := h
    cases rl with
    | nil => exact g.elim
    | cons r1 r2 =>
      obtain ⟨g1, g2⟩ := g
      refine ⟨_, _, rfl, B, H0, L, _, _, k, R.putF r1 g1, F.putF g1, r2.av (fun a z => av_putF a z), g2, fun ρ' σ' R' F' hj hn hl q => hq ρ' σ' R' F' (fun j hj' => ?_) (fun j s hs hj' => ?_) (by rw [hl, List.length_set]) q⟩
      · have n : i ≠ j := fun z => hj' (by subst z; simp)
        obtain ⟨z1, z2⟩ := hj j (fun z => hj' (List.mem_cons_of_mem _ z))
        rw [z1, z2, List.getElem?_set_ne n, List.getElem?_set_ne n]; exact ⟨rfl, rfl⟩
      · by_cases hm : j ∈ is
        · exact hn j s hs hm
        · obtain rfl : j = i := (List.mem_cons.mp hj').elim id fun z => absurd z hm
          rw [(hj j hm).2]
          exact set_fro_no hs)⟩⟩
theorem mg_tup {es : List Expr} {k : Nat} {is : List Nat} {n : Nat} (hc : X.calm = true) (h : MGs X es is)
    (hn : (assignEach es X.env).length = n := by rfl) (hl : is.length = n := by rfl) (hst : (assignEach es X.env).findIdx? (·.1) = none := by rfl) : MG X (.Tuple es k pos) is (gTp is) :=
  PG_weak (PG_or (pg_tup hc h.run hn hst) (pg_unl hc h.run hn hst)) fun v σ H Q ⟨B, H0, L, ρ, d, k, R, F, r, g, hq⟩ => by
    have len : ∀ {is : List Nat} {ds : List D} {ρ : List Slot} {k : List Slot → Prop}, gNms is ds ρ k → is.length = ds.length := by
      intro is
      induction is with
      | nil => intro ds ρ k h; cases ds with
        | nil => rfl
        | cons _ _ => exact h.elim
      | cons i is ih => intro ds ρ k h; cases ds with
        | nil => exact h.elim
        | cons d ds => rw [List.length_cons, List.length_cons, ih h.2]
    cases r with
    | tup hs rl =>
      have g' : gNms is _ ρ k := g
      exact .inl ⟨_, _, rfl, hs, by rw [rl.length, ← len g', hl], B, H0, L, ρ, _, k, R, F, rl, g, hq⟩
    | lst hs _ rl =>
      have g' : gNms is _ ρ k := g
      exact .inr ⟨_, _, rfl, SqL.of hs, by rw [rl.length, ← len g', hl], B, H0, L, ρ, _, k, R, F, rl, g, hq⟩
    | _ => exact g.elim
end
def wAsg (w : WE) (g : WG) : WS := fun KD ρ => w ρ fun s ρ1 => frz ρ1 s fun d ρ2 => g d ρ2 KD.nx
theorem ms_asg {X : Cx} {tg e : Expr} {w : WE} {js : List Nat} {g : WG} {pos : Pos} (he : ME X e w) (hg : MG X tg js g) (hs : swapsWithSole [tg] e pos.line X.env = pure false := by rfl) (hw : swappedStores [tg] e X.env = pure none := by rfl)
    (h1 : (assignEach [tg] X.env).map (·.2) = [assign tg X.env] := by rfl) : MS X (.Assign [tg] e pos) (wAsg w g) := ms_of (ps_asg he hg hs hw h1) fun B H0 L ρ σ H KD D R F hw en => by
  refine ⟨B, ρ, _, R, hw, fun s v ρ1 H1 post sub kp q => ?_⟩
  obtain ⟨B1, b1, b1', R1, P1⟩ := post.pend
  obtain ⟨d, ρ2, q2, R2, sub2, r2⟩ := frz_ok (B0 := B) R1 P1 b1 R.btr q
  exact ⟨B, H0, L, ρ2, d, _, R2.fewer b1, (F.step kp sub).step Kp.refl sub2, r2, q2, fun ρ' σ' R' F' _ _ _ q' => en.nx ρ' σ' H1 R' F' q'⟩
end Dl
namespace Dl
open PySem L2
variable [TabN]
def Yld (K : PySem.W.Frag) (A : Addr → Prop) (H1 : Hp) (J : It) (ds : List D) : Prop := ∀ (A2 : Addr → Prop) (H2 : Hp), Kp0 A H1 H2 → (∀ a, A2 a → A a ∨ H1 a = none) → (∀ a, A2 a → H2 a ≠ none) → ∀ i : Nat,
  (i = ds.length → J.stop i H2) ∧ ∀ d, ds[i]? = some d → J.go i H2 ∧ ∀ x H3, J.yld i H2 x H3 → Ex H2 H3 ∧ RepV K A2 H3 x d
abbrev WI := List Slot → (List D → List Slot → Prop) → Prop
def iOf (K : PySem.W.Frag) (wi : WI) : TI := fun σ H R => ∃ (B : Addr → Prop) (ρ : List Slot) (Q' : List D → List Slot → Prop), Rep K B ρ σ H ∧ wi ρ Q' ∧
  ∀ ds J ρ' H', Rep K B ρ' σ H' → Sub ρ' ρ → Kp (Own ρ σ) H H' → Yld K (Av B ρ' σ) H' J ds → Q' ds ρ' → R J H'
def MI (X : Cx) (tg iter : Expr) (wi : WI) : Prop := PI X tg iter (iOf X.K wi)
theorem PI_weak {X : Cx} {tg e : Expr} {t t' : TI} (h : PI X tg e t) (k : ∀ σ H Q, t' σ H Q → t σ H Q) : PI X tg e t' := ⟨fun pins s σ H Q I q => h.run pins s σ H Q I (k σ H Q q)⟩
theorem mi_of {X : Cx} {tg e : Expr} {t : TI} {w : WI} (h : PI X tg e t)
    (k : ∀ (B : Addr → Prop) (ρ : List Slot) (σ : L2.St) (H : Hp) (Q' : List D → List Slot → Prop) (R : It → Hp → Prop), Rep X.K B ρ σ H → w ρ Q' →
      (∀ ds J ρ' H', Rep X.K B ρ' σ H' → Sub ρ' ρ → Kp (Own ρ σ) H H' → Yld X.K (Av B ρ' σ) H' J ds → Q' ds ρ' → R J H') → t σ H R) : MI X tg e w :=
  PI_weak h fun σ H Q ⟨B, ρ, Q', R, hw, hq⟩ => k B ρ σ H Q' Q R hw hq
theorem yld_list {K : PySem.W.Frag} {A : Addr → Prop} {H : Hp} {a : Addr} {xs : List V} {ds : List D} (h : H a = some (.lst xs)) (n : ¬ A a) (r : RepL K A H xs ds) : Yld K A H (Itl K a) ds := fun A2 H2 k ha ht i => by
  have h2 : H2 a = some (.lst xs) := k.keep a _ h n
  have r2 : RepL K A2 H2 xs ds := r.mono0 k (fun _ z => z) ha
  refine ⟨fun e => ⟨xs, SqL.of h2, by rw [r.length]; omega⟩, fun d e => ?_⟩
  obtain ⟨v, e1, rv⟩ := r2.get e
  refine ⟨⟨xs, v, SqL.of h2, e1⟩, fun x H3 y => ?_⟩
  obtain ⟨rfl, y⟩ := y
  have := y xs (SqL.of h2)
  rw [e1] at this; cases this
  exact ⟨Ex.refl _, rv⟩
theorem yld_tup {K : PySem.W.Frag} {A : Addr → Prop} {H : Hp} {a : Addr} {xs : List V} {ds : List D} (h : SqT K H a xs) (r : RepL K A H xs ds) : Yld K A H (Itt K a) ds := fun A2 H2 k ha ht i => by
  have h2 : SqT K H2 a xs := k.rdT h
  have r2 : RepL K A2 H2 xs ds := r.mono0 k (fun _ z => z) ha
  refine ⟨fun e => ⟨xs, h2, by rw [r.length]; omega⟩, fun d e => ?_⟩
  obtain ⟨v, e1, rv⟩ := r2.get e
  refine ⟨⟨xs, v, h2, e1⟩, fun x H3 y => ?_⟩
  obtain ⟨rfl, y⟩ := y
  have := y xs h2
  rw [e1] at this; cases this
  exact ⟨Ex.refl _, rv⟩
theorem yld_range {K : PySem.W.Frag} {A : Addr → Prop} {H : Hp} {lo : Int} {n : Nat} : Yld K A H (Itr lo n) ((List.range n).map fun i : Nat => D.int (lo + i)) := fun A2 H2 k ha ht i => by
  refine ⟨fun e => ?_, fun d e => ?_⟩
  · rw [List.length_map, List.length_range] at e; exact Nat.le_of_eq e.symm
  · rw [List.getElem?_map] at e
    cases q : (List.range n)[i]? with
    | none => rw [q] at e; cases e
    | some j =>
      rw [q] at e
      have hj := List.getElem?_eq_some_iff.mp q
      obtain ⟨h1, h2⟩ := hj
      rw [List.length_range] at h1
      rw [List.getElem_range] at h2
      subst h2
      cases e
      refine ⟨h1, fun x H3 y => ?_⟩
      obtain ⟨rfl, rfl⟩ := y
      exact ⟨Ex.refl _, .int _⟩
def iSeq (K : PySem.W.Frag) (tl : TE) : TI := fun σ H R => tl σ H fun x H1 => (∃ a xs, x = .ref a ∧ SqL K H1 a xs ∧ R (Itl K a) H1) ∨ (∃ a xs, x = .ref a ∧ SqT K H1 a xs ∧ R (Itt K a) H1) ∨ ∃ y, x = .str y ∧ R (Its y) H1
theorem pi_seq {X : Cx} {tg l : Expr} {tl : TE} (hl : PE X l tl) : PI X tg l (iSeq X.K tl) := ⟨fun pins s σ H R I h => by
  refine thn (hl.run pins s σ H _ I h) fun v s1 hv => ?_
  obtain ⟨x, H1, I1, r1, ⟨a, xs, rfl, hq, q⟩ | ⟨a, xs, rfl, hq, q⟩ | ⟨y, rfl, q⟩⟩ := hv
  · cases r1
    obtain ⟨its, rv, p, hz⟩ := I1.list hq
    exact wpAny_pyIter_list p.isList (pi_one (tk := s1.toks) I1 _ (turn_list a _) ⟨_, Heap.get?_push_size _ rfl, rfl, rfl⟩ q)
  · cases r1
    obtain ⟨its, rv, p, hz⟩ := I1.tuple hq
    exact wpAny_pyIter_tuple (items := its.toArray) p (pi_one (tk := s1.toks) I1 _ (turn_tuple a _) ⟨_, Heap.get?_push_size _ rfl, rfl, rfl⟩ q)
  · obtain ⟨t, rfl⟩ := r1
    cases ha : y.cps.all (· < 128) with
    | false => exact wpAny_pyIter_wide ha (pi_one (tk := s1.toks) I1 _ (turn_str _ y t "str_iterator" (.inr rfl)) ⟨_, Heap.get?_push_size _ rfl, rfl, rfl⟩ q)
    | true => exact wpAny_pyIter_ascii ha (pi_one (tk := s1.toks) I1 _ (turn_str _ y t "str_ascii_iterator" (.inl rfl)) ⟨_, Heap.get?_push_size _ rfl, rfl, rfl⟩ q)⟩
def signs (y : Str) : List D := y.cps.toList.map fun c => D.str ⟨#[c]⟩
theorem yld_str {K : PySem.W.Frag} {A : Addr → Prop} {H : Hp} {y : Str} : Yld K A H (Its y) (signs y) := fun A2 H2 k ha ht i => by
  refine ⟨fun e => ?_, fun d e => ?_⟩
  · unfold signs at e; rw [List.length_map, Array.length_toList] at e; exact Nat.le_of_eq e.symm
  · unfold signs at e
    rw [List.getElem?_map, Array.getElem?_toList] at e
    cases q : y.cps[i]? with
    | none => rw [q] at e; cases e
    | some c =>
      rw [q] at e
      cases e
      refine ⟨(Array.getElem?_eq_some_iff.mp q).1, fun x H3 z => ?_⟩
      obtain ⟨rfl, c', e1, rfl⟩ := z
      rw [q] at e1; cases e1
      exact ⟨Ex.refl _, .str _⟩
def itemsOf : D → Option (List D)
  | .lst ds => some ds
  | .tup ds => some ds
  | .str y => some (signs y)
  | _ => none
def wSeqI (w : WE) : WI := fun ρ Q => w ρ fun s ρ1 => frz ρ1 s fun d ρ2 => match itemsOf d with
  | some ds => Q ds ρ2
  | none => False
theorem mi_seq {X : Cx} {tg l : Expr} {w : WE} (hl : ME X l w) : MI X tg l (wSeqI w) := mi_of (pi_seq hl) fun B ρ σ H Q' R0 R hw hq => by
  refine ⟨B, ρ, _, R, hw, fun s v ρ1 H1 post sub kp q => ?_⟩
  obtain ⟨B1, b1, b1', R1, P1⟩ := post.pend
  obtain ⟨d, ρ2, q2, R2, sub2, r2⟩ := frz_ok (B0 := B) R1 P1 b1 R.btr q
  have R3 := R2.fewer b1
  cases r2 with
  | lst h n r => exact .inl ⟨_, _, rfl, SqL.of h, hq _ _ ρ2 H1 R3 (sub.trans sub2) kp (yld_list h n r) q2⟩
  | tup h r => exact .inr (.inl ⟨_, _, rfl, h, hq _ _ ρ2 H1 R3 (sub.trans sub2) kp (yld_tup h r) q2⟩)
  | str y => exact .inr (.inr ⟨y, rfl, hq _ _ ρ2 H1 R3 (sub.trans sub2) kp yld_str q2⟩)
  | _ => exact q2.elim
def rangeD (lo : Int) (n : Nat) : List D := (List.range n).map fun i : Nat => D.int (lo + i)
def wRng1 (ws : List WE) : WI := fun ρ Q => wArgs ws ρ fun ss ρ' => withL ρ' ss fun ds => match ds with
  | [.int j] => -(2 ^ 62) ≤ j ∧ j < 2 ^ 62 ∧ Q (rangeD 0 j.toNat) ρ'
  | _ => False
def wRng2 (ws : List WE) : WI := fun ρ Q => wArgs ws ρ fun ss ρ' => withL ρ' ss fun ds => match ds with
  | [.int i, .int j] => (-(2 ^ 62) ≤ i ∧ i < 2 ^ 62 ∧ -(2 ^ 62) ≤ j ∧ j < 2 ^ 62) ∧ Q (rangeD i (j - i).toNat) ρ'
  | _ => False
theorem withL_get {ρ ss : List Slot} {k : List D → Prop} (h : withL ρ ss k) : ∃ ds, lookL ρ ss = some ds ∧ k ds := by
  unfold withL at h
  cases e : lookL ρ ss with
  | none => rw [e] at h; exact h.elim
  | some ds => rw [e] at h; exact ⟨ds, rfl, h⟩
theorem sees_int {K : PySem.W.Frag} {A : Addr → Prop} {H : Hp} {v : V} {i : Int} (h : Sees K A H v (.int i)) : v = .int i := by
  have h' : RepV K A H v (.int i) := h
  cases h'; rfl
theorem seesL1 {K : PySem.W.Frag} {A : Addr → Prop} {H : Hp} {vs : List V} {d : D} (h : SeesL K A H vs [d]) : ∃ v, vs = [v] ∧ Sees K A H v d := by
  match vs, h with
  | [v], h => exact ⟨v, rfl, h.1⟩
theorem seesL2 {K : PySem.W.Frag} {A : Addr → Prop} {H : Hp} {vs : List V} {d e : D} (h : SeesL K A H vs [d, e]) : ∃ v u, vs = [v, u] ∧ Sees K A H v d ∧ Sees K A H u e := by
  match vs, h with
  | [v, u], h => exact ⟨v, u, rfl, h.1, h.2.1⟩
theorem mi_range1 {X : Cx} {tg a : Expr} {ws : List WE} {p pos : Pos} (hg : Gl X "range") (hm : X.mg "range" = none) (ha : MA X [a] ws) (hs : starEach [a] X.env = [(false, eval a X.env)] := by rfl) : MI X tg (.Call (.Name "range" p) [a] [] pos) (wRng1 ws) :=
  mi_of (pi_range1 hg hm ha hs) fun B ρ σ H Q' R0 R hw hq => by
    refine ⟨B, ρ, _, R, hw, fun ss vs ρ2 B2 H2 b2 b2' R2 P2 sub kp q => ?_⟩
    obtain ⟨ds, e, q⟩ := withL_get q
    have sl := P2.sees R2 e
    match ds, q, sl with
    | [.int j], q, sl =>
      obtain ⟨v, rfl, sv⟩ := seesL1 sl
      cases sees_int sv
      exact ⟨j, rfl, q.1, q.2.1, hq _ _ ρ2 H2 (R2.fewer b2) sub kp yld_range q.2.2⟩
def zipD (xs ys : List D) : List D := (xs.zip ys).map fun p => D.tup [p.1, p.2]
def wZip (ws : List WE) : WI := fun ρ Q => wArgs ws ρ fun ss ρ' => frzL ρ' ss fun ds ρ2 => match ds with
  | [.lst xs, .lst ys] => Q (zipD xs ys) ρ2
  | [.tup xs, .tup ys] => Q (zipD xs ys) ρ2
  | _ => False
theorem repL_one {K : PySem.W.Frag} {A : Addr → Prop} {H : Hp} {vs : List V} {d e : D} (r : RepL K A H vs [d, e]) : ∃ v u, vs = [v, u] ∧ RepV K A H v d ∧ RepV K A H u e := by
  cases r with
  | cons h1 r =>
    cases r with
    | cons h2 r => cases r; exact ⟨_, _, rfl, h1, h2⟩
def enumD (ds : List D) : List D := ds.zipIdx.map fun p => D.tup [.int (p.2 : Nat), p.1]
def wEnum (ws : List WE) : WI := fun ρ Q => wArgs ws ρ fun ss ρ' => frzL ρ' ss fun ds ρ2 => match ds with
  | [.lst xs] => Q (enumD xs) ρ2
  | _ => False
def PinC (ρ : List Slot) (σ : L2.St) (H : Hp) (a : Addr) : Prop := Own ρ σ a ∧ ∀ o, H a = some o → ¬ isImm o
open Classical in
noncomputable def pinH (H0 : Hp) (ρ : List Slot) (σ : L2.St) (H : Hp) : Hp := fun a => if PinC ρ σ H a then H0 a else H a
theorem pin_own {H0 : Hp} {ρ : List Slot} {σ : L2.St} {H : Hp} {a : Addr} (h : PinC ρ σ H a) : pinH H0 ρ σ H a = H0 a := if_pos h
theorem pin_not {H0 : Hp} {ρ : List Slot} {σ : L2.St} {H : Hp} {a : Addr} (h : ¬ PinC ρ σ H a) : pinH H0 ρ σ H a = H a := if_neg h
theorem Rep.own_free {K : PySem.W.Frag} {B : Addr → Prop} {ρ : List Slot} {σ : L2.St} {H : Hp} {a : Addr} {j : Nat} {b : Bool} {o' : O} (R : Rep K B ρ σ H) (e1 : ρ[j]? = some (.own b o')) (e2 : σ[j]? = some (some (.ref a))) : PinC ρ σ H a := by
  refine ⟨.inl ⟨j, b, o', e1, e2⟩, fun o e i => ?_⟩
  obtain ⟨a', e3, q⟩ := R.slot j _ e1
  rw [e2] at e3; cases e3
  cases o' with
  | lst ds => obtain ⟨xs, z, _⟩ := q; rw [z] at e; cases e; exact i
  | dct ds => obtain ⟨xs, z, _⟩ := q; rw [z] at e; cases e; exact i
  | obj c ds => obtain ⟨C, dx, xs, z, _⟩ := q; rw [z] at e; cases e; exact i
  | lck ds => exact q.elim
section
variable {K : PySem.W.Frag} {B : Addr → Prop} {H0 : Hp} {L : LT} {ρ : List Slot} {σ : L2.St} {H : Hp}
theorem Fr.lent_own (F : Fr H0 L ρ σ H) {i : Nat} {a : Addr} (h : L.l i a) : Own ρ σ a := by
  obtain ⟨⟨o, e⟩, e2⟩ := (F.lent i a).1 h
  exact .inl ⟨i, true, o, e, e2⟩
theorem Fr.pin (F : Fr H0 L ρ σ H) (R : Rep K B ρ σ H) : Fr (pinH H0 ρ σ H) (L.pin ρ) ρ σ H where
  keep := fun a o e n t => by
    by_cases h : PinC ρ σ H a
    · rw [pin_own h] at e
      refine F.keep a o e (fun i => ⟨(n i).1, fun z => ?_⟩) t
      rcases h.1 with ⟨j, b, o', e1, e2⟩ | ⟨j, S, e1, e2⟩
      · cases b with
        | true => exact (n j).1 ((F.lent j a).2 ⟨⟨o', e1⟩, e2⟩)
        | false => have z := F.ownf j o' a e1 e2; rw [e] at z; cases z
      · exact (n j).2 ⟨S, e1, e2⟩
    · rw [pin_not h] at e; exact e
  imm := fun a o e i => by
    by_cases h : PinC ρ σ H a
    · rw [pin_own h] at e; exact F.imm a o e i
    · rw [pin_not h] at e; exact e
  trk := fun a e => by
    by_cases h : PinC ρ σ H a
    · exact R.own_trk h.1
    · rw [pin_not h] at e; exact e
  ownf := fun i o a e1 e2 => by rw [pin_own (R.own_free e1 e2)]; exact F.ownf i o a e1 e2
  lent := F.lent
  sto := fun i S a e1 e2 => .inl ⟨S, e1, e2⟩
  stl := F.stl
theorem Fr.unpin {ρ2 : List Slot} {σ2 : L2.St} {H2 : Hp} (F : Fr H0 L ρ σ H) (F2 : Fr (pinH H0 ρ σ H) (L.pin ρ) ρ2 σ2 H2) : Fr H0 L ρ2 σ2 H2 where
  keep := fun a o e n t => F2.keep a o (by
    by_cases h : PinC ρ σ H a
    · rw [pin_own h]; exact e
    · rw [pin_not h]; exact F.keep a o e n t) (fun i => ⟨(n i).1, fun ⟨S, e1, e2⟩ => (F.sto i S a e1 e2).elim (n i).2 fun z => (by rw [e] at z; cases z)⟩) t
  imm := fun a o e i => F2.imm a o (by
    by_cases h : PinC ρ σ H a
    · rw [pin_own h]; exact e
    · rw [pin_not h]; exact F.imm a o e i) i
  trk := fun a e => F2.trk a (by
    by_cases h : PinC ρ σ H a
    · rw [pin_own h]; exact e
    · rw [pin_not h]; exact F.trk a e)
  ownf := fun i o a e1 e2 => by
    have z := F2.ownf i o a e1 e2
    by_cases h : PinC ρ σ H a
    · rw [pin_own h] at z; exact z
    · rw [pin_not h] at z
      cases q : H0 a with
      | none => rfl
      | some o' => exact absurd z (F.trk a (by rw [q]; exact nofun))
  lent := F2.lent
  sto := fun i S a e1 e2 => by
    rcases F2.sto i S a e1 e2 with ⟨T, z1, z2⟩ | z
    · exact F.sto i T a z1 z2
    · right
      by_cases h : PinC ρ σ H a
      · rw [pin_own h] at z; exact z
      · rw [pin_not h] at z
        cases q : H0 a with
        | none => rfl
        | some o' => exact absurd z (F.trk a (by rw [q]; exact nofun))
  stl := F2.stl
theorem Fr.pinned {ρ2 : List Slot} {σ2 : L2.St} {H2 : Hp} (F : Fr H0 L ρ σ H) (R : Rep K B ρ σ H) (F2 : Fr (pinH H0 ρ σ H) (L.pin ρ) ρ2 σ2 H2) : Kp0 (Av B ρ σ) H H2 where
  keep := fun a o e n t => F2.keep a o (by rw [pin_not fun z => n (.inl z.1)]; exact e) (fun i => ⟨fun z => n (.inl (F.lent_own z)), fun ⟨S, e1, e2⟩ => n (.inl (.inr ⟨i, S, e1, e2⟩))⟩) t
  imm := fun a o e i => F2.imm a o (by rw [pin_not fun z => z.2 o e i]; exact e) i
theorem Fr.pinned_av {ρ2 : List Slot} {σ2 : L2.St} {H2 : Hp} (F : Fr H0 L ρ σ H) (F2 : Fr (pinH H0 ρ σ H) (L.pin ρ) ρ2 σ2 H2) (a : Addr) (z : Av B ρ2 σ2 a) : Av B ρ σ a ∨ H a = none := by
  rcases z with (⟨i, b, o, e1, e2⟩ | ⟨i, S, e1, e2⟩) | z
  · cases b with
    | true => exact .inl (.inl (F.lent_own ((F2.lent i a).2 ⟨⟨o, e1⟩, e2⟩)))
    | false =>
      have z := F2.ownf i o a e1 e2
      by_cases h : PinC ρ σ H a
      · exact .inl (.inl h.1)
      · rw [pin_not h] at z; exact .inr z
  · rcases F2.sto i S a e1 e2 with ⟨T, z1, z2⟩ | z
    · exact .inl (.inl (.inr ⟨i, T, z1, z2⟩))
    · by_cases h : PinC ρ σ H a
      · exact .inl (.inl h.1)
      · rw [pin_not h] at z; exact .inr z
  · exact .inl (.inr z)
end
def loop (g : WG) (w : WS) (KD : DEnds) : List D → List Slot → Prop
  | [], ρ => KD.nx ρ
  | d :: ds, ρ => g d ρ fun ρ1 => w { nx := loop g w KD ds, ct := loop g w KD ds, bk := KD.nx, rt := KD.rt } ρ1
def wFor (wi : WI) (g : WG) (w : WS) : WS := fun KD ρ => wi ρ fun ds ρ1 => loop g w KD ds ρ1
theorem drop_cons {α : Type} {l : List α} {i : Nat} {x : α} (h : l[i]? = some x) : l.drop i = x :: l.drop (i + 1) := by
  obtain ⟨h1, rfl⟩ := List.getElem?_eq_some_iff.mp h
  exact List.drop_eq_getElem_cons h1
theorem ms_for {X : Cx} {tg iter : Expr} {body : List Stmt} {wi : WI} {js : List Nat} {g : WG} {w : WS} {pos : Pos} (hp : PassesOwn (model X.prog X.w) X.A X.env X.xe) (hc : X.calm = true) (hi : MI X tg iter wi) (hg : MG X tg js g) (hb : MSs X body w)
    (hs : ∀ x, foldedSetIterable iter X.env x = pure x := by intro _; rfl) : MS X (.For tg iter body [] pos) (wFor wi g w) := ms_of (ps_for hp hc hi hg hb hs) fun B H0 L ρ σ H KD D R F hw en => by
  refine ⟨B, ρ, _, R, hw, fun ds J ρ1 H1 R1 sub kp yl q => ?_⟩
  have F1 := F.step kp sub
  refine ⟨fun i m σ2 H2 => ∃ ρ2, m = ds.length - i ∧ i ≤ ds.length ∧ Rep X.K B ρ2 σ2 H2 ∧ Fr (pinH H0 ρ1 σ H1) (L.pin ρ1) ρ2 σ2 H2 ∧ loop g w KD (ds.drop i) ρ2, ⟨ds.length, ρ1, rfl, Nat.zero_le _, R1, F1.pin R1, q⟩, ?_⟩
  rintro i m σ2 H2 ⟨ρ2, rfl, hi, R2, F2, q2⟩
  obtain ⟨y1, y2⟩ := yl (Av B ρ2 σ2) H2 (F1.pinned R1 F2) (F1.pinned_av F2) (fun a z => R2.av_trk z) i
  by_cases hlt : i < ds.length
  · have e := List.getElem?_eq_getElem hlt
    obtain ⟨go, y3⟩ := y2 _ e
    rw [drop_cons e] at q2
    refine .inr ⟨go, fun σ' H' => ∃ ρ', Rep X.K B ρ' σ' H' ∧ Fr (pinH H0 ρ1 σ H1) (L.pin ρ1) ρ' σ' H' ∧ loop g w KD (ds.drop (i + 1)) ρ', fun σ' H' ⟨ρ', R', F', q'⟩ => ⟨_, by omega, ρ', rfl, hlt, R', F', q'⟩, fun x H3 yx => ?_⟩
    obtain ⟨ex, rv⟩ := y3 x H3 yx
    have R3 := R2.ex (B' := B) ex fun a z => .inl z
    have F3 := F2.step (ex.kp (S := Own ρ2 σ2)) (Sub.refl ρ2)
    refine ⟨B, _, L.pin ρ1, ρ2, _, _, R3, F3, rv, q2, fun ρ4 σ4 R4 F4 _ _ _ q4 => ?_⟩
    exact ⟨B, _, L.pin ρ1, ρ4, _, R4, F4, q4, ⟨fun ρ' σ' H' R' F' q' => ⟨ρ', R', F', q'⟩, fun ρ' σ' H' R' F' q' => en.nx ρ' σ' H' R' (F1.unpin F') q', fun ρ' σ' H' R' F' q' => ⟨ρ', R', F', q'⟩,
      fun s v ρ' σ' Ha H' post F' t q' => en.rt s v ρ' σ' Ha H' post (F1.unpin F') (fun a z => t a (by
        by_cases h : PinC ρ1 σ H1 a
        · rw [pin_own h]; exact z
        · rw [pin_not h]; exact F1.trk a z)) q'⟩⟩
  · have e : i = ds.length := by omega
    subst e
    rw [List.drop_length] at q2
    exact .inl ⟨y1 rfl, en.nx ρ2 σ2 H2 R2 (F1.unpin F2) q2⟩
def wWhile (t : WT) (w : WS) : WS := fun KD ρ => ∃ I : Nat → List Slot → Prop, (∃ m, I m ρ) ∧ ∀ m ρ', I m ρ' →
  t ρ' fun b ρ2 => if b = true then w { nx := fun ρ3 => ∃ m', m' < m ∧ I m' ρ3, ct := fun ρ3 => ∃ m', m' < m ∧ I m' ρ3, bk := KD.nx, rt := KD.rt } ρ2 else KD.nx ρ2
theorem ms_while {X : Cx} {c : Expr} {body : List Stmt} {t : WT} {w : WS} {pos : Pos} (hp : PassesOwn (model X.prog X.w) X.A X.env X.xe) (hc : MT X c t) (hb : MSs X body w) : MS X (.While c body [] pos) (wWhile t w) :=
  ms_of (ps_while hp hc hb) fun B H0 L ρ σ H KD D R F hw en => by
    obtain ⟨I, ⟨m0, i0⟩, step⟩ := hw
    refine ⟨fun m σ2 H2 => ∃ ρ2, Rep X.K B ρ2 σ2 H2 ∧ Fr H0 L ρ2 σ2 H2 ∧ I m ρ2, ⟨m0, ρ, R, F, i0⟩, ?_⟩
    rintro m σ2 H2 ⟨ρ2, R2, F2, i2⟩
    refine ⟨B, ρ2, _, R2, step m ρ2 i2, fun b ρ3 H3 R3 sub kp q => ?_⟩
    have F3 := F2.step kp sub
    cases b with
    | true =>
      refine ⟨fun σ' H' => ∃ ρ' m', Rep X.K B ρ' σ' H' ∧ Fr H0 L ρ' σ' H' ∧ m' < m ∧ I m' ρ', fun σ' H' ⟨ρ', m', R', F', hm, i'⟩ => ⟨m', hm, ρ', R', F', i'⟩, ?_⟩
      exact ⟨B, H0, L, ρ3, _, R3, F3, q, ⟨fun ρ' σ' H' R' F' ⟨m', hm, i'⟩ => ⟨ρ', m', R', F', hm, i'⟩, en.nx, fun ρ' σ' H' R' F' ⟨m', hm, i'⟩ => ⟨ρ', m', R', F', hm, i'⟩, en.rt⟩⟩
    | false => exact en.nx ρ3 σ2 H3 R3 F3 q
end Dl
namespace Dl
open PySem L2
variable [TabN]
theorem own_upd {ρ : List Slot} {σ : L2.St} {i : Nat} {b : Bool} {o o' : O} (h : ρ[i]? = some (.own b o)) (a : Addr) : Own (ρ.set i (.own b o')) σ a ↔ Own ρ σ a := by
  have hi := (List.getElem?_eq_some_iff.mp h).1
  constructor
  · rintro (⟨j, c, u, e1, e2⟩ | ⟨j, S, e1, e2⟩)
    · rcases getElem?_set_of e1 with ⟨rfl, z⟩ | ⟨n, z⟩
      · cases z; exact .inl ⟨i, b, o, h, e2⟩
      · exact .inl ⟨j, c, u, z, e2⟩
    · rcases getElem?_set_of e1 with ⟨rfl, z⟩ | ⟨n, z⟩
      · cases z
      · exact .inr ⟨j, S, z, e2⟩
  · rintro (⟨j, c, u, e1, e2⟩ | ⟨j, S, e1, e2⟩)
    · by_cases n : i = j
      · subst n; rw [h] at e1; cases e1; exact .inl ⟨i, b, o', by rw [List.getElem?_set_self hi], e2⟩
      · exact .inl ⟨j, c, u, by rw [List.getElem?_set_ne n]; exact e1, e2⟩
    · exact .inr ⟨j, S, by rw [List.getElem?_set_ne (fun z => by subst z; rw [h] at e1; cases e1)]; exact e1, e2⟩
theorem sub_upd {ρ : List Slot} {i : Nat} {b : Bool} {o o' : O} (h : ρ[i]? = some (.own b o)) : Sub (ρ.set i (.own b o')) ρ := by
  have hi := (List.getElem?_eq_some_iff.mp h).1
  refine ⟨fun j c p e => ?_, fun j p e => ?_, fun j S e => ?_, fun j S e => ?_⟩
  · rcases getElem?_set_of e with ⟨rfl, z⟩ | ⟨_, z⟩
    · cases z; exact ⟨o, h⟩
    · exact ⟨p, z⟩
  · by_cases n : i = j
    · subst n; rw [h] at e; cases e; exact ⟨o', by rw [List.getElem?_set_self hi]⟩
    · exact ⟨p, by rw [List.getElem?_set_ne n]; exact e⟩
  · rcases getElem?_set_of e with ⟨rfl, z⟩ | ⟨_, z⟩
    · cases z
    · exact ⟨S, z, fun _ z => z⟩
  · exact ⟨S, by rw [List.getElem?_set_ne (fun z => by subst z; rw [h] at e; cases e)]; exact e⟩
theorem Kp.upd {S : Addr → Prop} {H : Hp} {a : Addr} {u : HO} (h : S a) (hm : ∀ o, H a = some o → ¬ isFix o) : Kp S H (L2.upd H a u) :=
  ⟨⟨fun x o e n _ => by rw [upd_ne (fun z => n (by rw [z]; exact h))]; exact e, fun x o e i => by rw [upd_ne (fun z => hm o (by rw [← z]; exact e) i.fix)]; exact e⟩, fun x e => by
    by_cases z : x = a
    · subst z; rw [upd_same]; exact nofun
    · rw [upd_ne z]; exact e, fun t => t.upd hm⟩
theorem OOk.mut {K : PySem.W.Frag} {A : Addr → Prop} {H : Hp} {a : Addr} {o : O} (h : OOk K A H a o) (u : HO) (e : H a = some u) : ¬ isFix u := by
  cases o with
  | lst ds => obtain ⟨xs, z, _⟩ := h; rw [z] at e; cases e; exact fun q => q
  | dct ds => obtain ⟨xs, z, _⟩ := h; rw [z] at e; cases e; exact fun q => q
  | obj c ds => obtain ⟨C, dx, xs, z, _⟩ := h; rw [z] at e; cases e; exact fun q => q
  | lck ds => exact h.elim
section
variable {K : PySem.W.Frag} {B : Addr → Prop} {ρ : List Slot} {σ : L2.St} {H : Hp} {i : Nat} {b : Bool} {o o' : O} {a : Addr} {u : HO}
theorem Rep.mut (R : Rep K B ρ σ H) (h : ρ[i]? = some (.own b o)) (ha : σ[i]? = some (some (.ref a))) (r : OOk K (Av B ρ σ) (L2.upd H a u) a o') :
    Rep K B (ρ.set i (.own b o')) σ (L2.upd H a u) ∧ Sub (ρ.set i (.own b o')) ρ ∧ Kp (Own ρ σ) H (L2.upd H a u) := by
  have hi := (List.getElem?_eq_some_iff.mp h).1
  have oa : Own ρ σ a := .inl ⟨i, b, o, h, ha⟩
  have hm : ∀ x, H a = some x → ¬ isFix x := fun x e => by
    obtain ⟨a', e1, q⟩ := R.slot i _ h
    rw [ha] at e1; cases e1
    exact q.mut x e
  have kp : Kp (Own ρ σ) H (L2.upd H a u) := Kp.upd oa hm
  have av : ∀ x, Av B (ρ.set i (.own b o')) σ x → Av B ρ σ x ∨ H x = none := fun x z => .inl (z.elim (fun z => .inl ((own_upd h x).1 z)) .inr)
  refine ⟨⟨R.shp.sub (List.length_set) (sub_upd h), fun j s e => ?_, fun x z => kp.trk x (R.btr x z), fun x z => R.dis x ((own_upd h x).1 z), kp.tab R.tabs⟩, sub_upd h, kp⟩
  rcases getElem?_set_of e with ⟨rfl, rfl⟩ | ⟨n, z⟩
  · exact ⟨a, ha, r.av fun x z => z.elim (fun z => .inl ((own_upd h x).1 z)) .inr⟩
  · refine (R.slot j s z).mono (S := fun x => x = a) (Kp.upd rfl hm) (fun x z => by rw [z]; exact .inl oa) av (fun c p y e1 e2 z' => ?_) fun T y e1 e2 z' => ?_
    · subst e1; subst z'; exact n (R.inj i j b o c p _ h z ha e2)
    · subst e1; subst z'; exact e2 (R.snd j i T b o _ z h ha)
end
def kindO : O → String
  | .lst _ => "list"
  | .dct _ => "dict"
  | .obj _ _ => "instance"
  | .lck _ => "instance"
theorem kind_ty {K : PySem.W.Frag} {A : Addr → Prop} {H : Hp} {a : Addr} {o : O} (hT : kindO o ≠ "instance") (h : OOk K A H a o) : tyV K (kindO o) (.ref a) H := by
  cases o with
  | lst ds => obtain ⟨xs, e, _⟩ := h; exact .inl ⟨rfl, xs, SqL.of e⟩
  | dct ds => obtain ⟨xs, e, _⟩ := h; exact .inr (.inr (.inl ⟨rfl, .inl ⟨xs, e⟩⟩))
  | obj c ds => exact absurd rfl hT
  | lck ds => exact absurd rfl hT
def wMt (T : String) (i : Nat) (ws : List WE) (g : O → List D → (O → D → Prop) → Prop) : WE := fun ρ Q => (∃ b o, ρ[i]? = some (Slot.own b o) ∧ kindO o = T) ∧ wArgs ws ρ fun ss ρ1 => frzL ρ1 ss fun ds ρ2 => match ρ2[i]? with
  | some (.own b o) => g o ds fun o' d => Q (.fro d) (ρ2.set i (.own b o'))
  | _ => False
def MutR (K : PySem.W.Frag) (r : V → List V → Hp → VK → Prop) (g : O → List D → (O → D → Prop) → Prop) : Prop := ∀ (A : Addr → Prop) (H : Hp) (a : Addr) (o : O) (vs : List V) (ds : List D) (k : O → D → Prop) (Q : VK), A a → OOk K A H a o → RepL K A H vs ds → g o ds k →
  (∀ o' d v u, k o' d → OOk K A (L2.upd H a u) a o' → RepV K A (L2.upd H a u) v d → Q v (L2.upd H a u)) → r (.ref a) vs H Q
theorem wMt_ok {K : PySem.W.Frag} {T : String} {r : V → List V → Hp → VK → Prop} {g : O → List D → (O → D → Prop) → Prop} {i : Nat} {ws : List WE} {B : Addr → Prop} {ρ : List Slot} {σ : L2.St} {H : Hp} {Q' : Slot → List Slot → Prop} {Q : VK} (hT : T ≠ "instance") (m : MutR K r g) (R : Rep K B ρ σ H) (hw : wMt T i ws g ρ Q')
    (hq : ∀ s v ρ' H', Post K B ρ' σ H H' s v → Sub ρ' ρ → Kp (Own ρ σ) H H' → Q' s ρ' → Q v H') : tBM K T r (tVar i) (taOf K ws) σ H Q := by
  obtain ⟨⟨b, o, h0, rfl⟩, hw⟩ := hw
  obtain ⟨a, ea, qa⟩ := R.slot i _ h0
  refine ⟨_, ea, kind_ty hT qa, args_frz R hw fun ds vs ρ2 H2 R2 r2 sub kp q => ?_⟩
  cases e : ρ2[i]? with
  | none => rw [e] at q; exact q.elim
  | some t =>
    rw [e] at q
    cases t with
    | own c p =>
      obtain ⟨a', e1, q1⟩ := R2.slot i _ e
      rw [ea] at e1; cases e1
      refine m (Av B ρ2 σ) H2 a p vs ds _ Q (.inl (.inl ⟨i, c, p, e, ea⟩)) q1 r2 q fun o' d v u hk ho hv => ?_
      obtain ⟨R3, s3, k3⟩ := R2.mut (u := u) e ea ho
      exact hq _ _ _ _ (postF R3 (hv.av fun x z => z.elim (fun z => .inl ((own_upd e x).1 z)) .inr)) (sub.trans s3) (kp.trans k3 fun x z => sub.own x z) hk
    | nil => exact q.elim
    | fro d => exact q.elim
    | var j => exact q.elim
    | «at» j => exact q.elim
    | sto j => exact q.elim
    | bun d S => exact q.elim
def gApp : O → List D → (O → D → Prop) → Prop
  | .lst ds, [d], k => ds.length < sizeLine ∧ k (.lst (ds ++ [d])) .non
  | _, _, _ => False
theorem mut_append {K : PySem.W.Frag} : MutR K rAppend gApp := fun A H a o vs ds k Q hA ho r hg hq => by
  match o, ds, hg, ho, r with
  | .lst ds, [d], ⟨hz, hk⟩, ⟨xs, e, rx⟩, .cons (v := v) r1 .nil =>
    refine ⟨a, xs, v, rfl, rfl, e, by rw [rx.length]; exact hz, ?_⟩
    have kp : Kp (fun x => x = a) H (L2.upd H a (.lst (xs ++ [v]))) := Kp.upd rfl fun o z => by rw [e] at z; cases z; exact fun q => q
    exact hq _ _ _ _ hk ⟨_, upd_same, (rx.mono kp (fun x z => by rw [z]; exact hA) fun x z => .inl z).append (.one (r1.mono kp (fun x z => by rw [z]; exact hA) fun x z => .inl z))⟩ .non
def gExt : O → List D → (O → D → Prop) → Prop
  | .lst ds, [.lst es], k => ds.length + es.length ≤ sizeLine ∧ k (.lst (ds ++ es)) .non
  | _, _, _ => False
theorem mut_extend {K : PySem.W.Frag} : MutR K rExtend gExt := fun A H a o vs ds k Q hA ho r hg hq => by
  match o, ds, hg, ho, r with
  | .lst ds, [.lst es], ⟨hz, hk⟩, ⟨xs, e, rx⟩, .cons (v := v) r1 .nil =>
    cases r1 with
    | lst h n r1 =>
      rename_i b ys
      refine ⟨a, b, xs, ys, rfl, rfl, e, h, by rw [rx.length, r1.length]; exact hz, ?_⟩
      have kp : Kp (fun x => x = a) H (L2.upd H a (.lst (xs ++ ys))) := Kp.upd rfl fun o z => by rw [e] at z; cases z; exact fun q => q
      exact hq _ _ _ _ hk ⟨_, upd_same, (rx.mono kp (fun x z => by rw [z]; exact hA) fun x z => .inl z).append (r1.mono kp (fun x z => by rw [z]; exact hA) fun x z => .inl z)⟩ .non
section
variable {X : Cx} {o e : Expr} {es : List Expr} {i : Nat} {ws : List WE} {apos cpos : Pos} {T id : String} {name : Str} {r : V → List V → Hp → VK → Prop} {g : O → List D → (O → D → Prop) → Prop}
theorem me_mut (pa : PlainAttrs T) (slot : PySem.Slot T name id) (hty : typeOf (.builtin id) = pure (.type "method_descriptor")) (hm : MtR X id r) (m : MutR X.K r g) (ho : PE X o (tVar i)) (ha : MA X (e :: es) ws)
    (hbase : attributeBase o name X.env (eval o X.env) = eval o X.env := by rfl)
    (hfew : ((backTo cpos (starEach (e :: es) X.env)).all (fun x => !x.1) && (backToKw cpos (keywordEach [] X.env)).all (fun x => x.1.isSome)
      && decide ((e :: es).length + ([] : List Keyword).length + (if ([] : List Keyword).isEmpty then 0 else 1) < 30)) = true := by rfl)
    (hT : T ≠ "instance" := by decide) (hline : (apos.endLine == cpos.line) = true := by rfl) (hst : starEach (e :: es) X.env = (false, eval e X.env) :: starEach es X.env := by rfl) (hplain : (backTo cpos (starEach es X.env)).any (·.1) = false := by rfl) :
    ME X (.Call (.Attribute o name apos) (e :: es) [] cpos) (wMt T i ws g) :=
  me_of (pe_bm pa slot hty hm ho ha hbase hfew hline hst hplain) fun B ρ σ H Q' Q R hw hq => wMt_ok hT m R hw hq
end
def wApp (i : Nat) (w : WE) : WE := wMt "list" i [w] gApp
def wExt (i : Nat) (w : WE) : WE := wMt "list" i [w] gExt
def wSetIx (i : Nat) (wk w : WE) : WS := fun KD ρ => w ρ fun s ρ1 => frz ρ1 s fun d ρ2 => (∃ b o, ρ2[i]? = some (Slot.own b o)) ∧ wk ρ2 fun t ρ3 => match lookD ρ3 t with
  | some (.int k) => (match ρ3[i]? with
    | some (.own b (.lst ds)) => (match ixN ds.length k with
      | some j => KD.nx (ρ3.set i (.own b (.lst (ds.set j d))))
      | none => False)
    | _ => False)
  | _ => False
theorem ms_setIx {X : Cx} {o k e : Expr} {i : Nat} {wk w : WE} {pos tpos : Pos} (he : ME X e w) (ho : PE X o (tVar i)) (hk : ME X k wk)
    (ha : ∀ v, assign (.Subscript o k tpos) X.env v = (do
      let ov ← holding [v] (eval o X.env)
      let iv ← holding [v, ov] (eval k X.env)
      standAt tpos
      holding [v, ov, iv] (setItem ov iv v)
      release [v, ov, iv] []) := by intro _; rfl)
    (hs : swapsWithSole [.Subscript o k tpos] e pos.line X.env = pure false := by rfl) (hw : swappedStores [.Subscript o k tpos] e X.env = pure none := by rfl)
    (h1 : (assignEach [.Subscript o k tpos] X.env).map (·.2) = [assign (.Subscript o k tpos) X.env] := by rfl) : MS X (.Assign [.Subscript o k tpos] e pos) (wSetIx i wk w) :=
  ms_of (ps_asg he (pg_sub ho hk set_list ha) hs hw h1) fun B H0 L ρ σ H KD D R F hw en => by
    refine ⟨B, ρ, _, R, hw, fun s v ρ1 H1 post sub kp q => ?_⟩
    obtain ⟨B1, b1, b1', R1, P1⟩ := post.pend
    obtain ⟨d, ρ2, q2, R2, sub2, r2⟩ := frz_ok (B0 := B) R1 P1 b1 R.btr q
    have R3 := R2.fewer b1
    obtain ⟨⟨b, o, h0⟩, hwk⟩ := q2
    obtain ⟨a, ea, qa⟩ := R3.slot i _ h0
    have F3 := (F.step kp sub).step Kp.refl sub2
    refine ⟨_, ea, B, ρ2, _, R3, hwk, fun t y ρ3 H3 post3 sub3 kp3 q3 => ?_⟩
    obtain ⟨B4, b4, b4', R4, P4⟩ := post3.pend
    have R5 := R4.fewer b4
    have F5 := F3.step kp3 sub3
    have r5 : RepV X.K (Av B ρ3 σ) H3 v d := r2.mono kp3 (fun x z => .inl z) fun x z => .inl (z.elim (fun z => .inl (sub3.own x z)) .inr)
    cases el : lookD ρ3 t with
    | none => rw [el] at q3; exact q3.elim
    | some dk =>
      rw [el] at q3
      have sk := P4.sees R4 el
      match dk, q3, sk with
      | .int k, q3, sk =>
        cases sees_int sk
        cases e3 : ρ3[i]? with
        | none => simp only [e3] at q3
        | some u =>
          simp only [e3] at q3
          match u, e3, q3 with
          | .own c (.lst ds), e3, q3 =>
            cases ej : ixN ds.length k with
            | none => simp only [ej] at q3
            | some j =>
              simp only [ej] at q3
              obtain ⟨a', e4, xs, ex, rx⟩ := R5.slot i _ e3
              rw [ea] at e4; cases e4
              refine ⟨a, xs, k, j, rfl, rfl, ex, by rw [rx.length]; exact ej, ?_⟩
              have av : Av B ρ3 σ a := .inl (.inl ⟨i, c, _, e3, ea⟩)
              have ku : Kp (fun x => x = a) H3 (L2.upd H3 a (.lst (xs.set j v))) := Kp.upd rfl fun o z => by rw [ex] at z; cases z; exact fun q => q
              obtain ⟨R6, s6, k6⟩ := R5.mut (u := .lst (xs.set j v)) (o' := .lst (ds.set j d)) e3 ea ⟨_, upd_same, ((rx.mono ku (fun x z => by rw [z]; exact av) fun x z => .inl z).set (r5.mono ku (fun x z => by rw [z]; exact av) fun x z => .inl z) j)⟩
              exact en.nx _ _ _ R6 (F5.step k6 s6) q3
def wPar (i j : Nat) (w1 w2 : WE) : WS := fun KD ρ => w1 ρ fun s1 ρ1 => w2 ρ1 fun s2 ρ2 => prep ρ2 s1 fun t1 ρ3 => prep ρ3 s2 fun t2 ρ4 => put i ρ4 t1 fun ρ5 => put j ρ5 t2 KD.nx
theorem ms_par {X : Cx} {i j : Nat} {x y : Str} {a b : Expr} {w1 w2 : WE} {px py pt pos : Pos} {kt k2 : Nat} {pt2 : Pos} (hc : X.calm = true) (hN : X.N.Nodup) (hi : X.N[i]? = some x) (hj : X.N[j]? = some y) (hij : i ≠ j)
    (hx : X.env.scope.names.lookup x = some .local) (hy : X.env.scope.names.lookup y = some .local) (ha : ME X a w1) (hb : ME X b w2)
    (hw : swappedStores [.Tuple [.Name x px, .Name y py] kt pt] (.Tuple [a, b] k2 pt2) X.env = pure (some [x, y]) := by rfl)
    (hs : swapsWithSole [.Tuple [.Name x px, .Name y py] kt pt] (.Tuple [a, b] k2 pt2) pos.line X.env = pure false := by rfl)
    (hs1 : starEach [a, b] X.env = (false, eval a X.env) :: starEach [b] X.env := by rfl) (hs2 : starEach [b] X.env = (false, eval b X.env) :: starEach [] X.env := by rfl) :
    MS X (.Assign [.Tuple [.Name x px, .Name y py] kt pt] (.Tuple [a, b] k2 pt2) pos) (wPar i j w1 w2) :=
  ms_of (ps_par hc hN hi hj hij hx hy (pa_cons ha (pa_cons hb pa_nil hs2) hs1) hw hs) fun B H0 L ρ σ H KD D R F hw en => by
    refine ⟨B, ρ, _, R, hw, fun s1 v ρ1 H1 post sub kp hw1 => ?_⟩
    obtain ⟨B1, b1, b1', R1, P1⟩ := post.pend
    refine ⟨B1, ρ1, _, R1, hw1, fun s2 u ρ2 H2 post2 sub2 kp2 q => ?_⟩
    obtain ⟨B2, b2, b2', R2, P2⟩ := post2.pend
    have P1' := P1.step R1 kp2 sub2 b2 b2'
    have F2 := (F.step kp sub).step kp2 sub2
    have nd : ∀ b o b' o', s1 = .own b o → s2 = .own b' o' → v ≠ u := fun b o b' o' e1 e2 z => by
      subst e1 e2
      obtain ⟨a1, rfl, m1, m2, _⟩ := P1
      obtain ⟨a2, e, n1, n2, _⟩ := P2
      rw [e] at z; cases z
      exact R1.btr _ m1 n2
    obtain ⟨t1, ρ3, q3, R3, sub3, P3, nv1, o1, nb1⟩ := prep_ok (B0 := B) R2 P1' q
    have P2' := (P2.start kp).step R2 Kp.refl sub3 (fun _ z => z) fun _ z => .inl z
    obtain ⟨t2, ρ4, q4, R4, sub4, P4, nv2, o2, nb2⟩ := prep_ok (B0 := B) R3 P2' q3
    have P3' := P3.step R3 Kp.refl sub4 (fun _ z => z) fun _ z => .inl z
    have F4 := (F2.step Kp.refl sub3).step Kp.refl sub4
    have hs : ∀ a, H a = none → H0 a = none := fun a z => by
      cases e : H0 a with
      | none => rfl
      | some o => exact absurd z (F.trk a (by rw [e]; exact nofun))
    obtain ⟨B5, ρ5, q5, R5, F5, c5, d5, keep⟩ := put_ok R4 F4 P3' hs q4
    have P5 := keep t2 u P4 nv2 (fun b o b' o' e1 e2 => nd b o b' o' (o1 _ _ e1) (o2 _ _ e2)) nb2
    obtain ⟨B6, ρ6, q6, R6, F6, c6, d6, _⟩ := put_ok R5 F5 P5 hs q5
    refine ⟨v, u, rfl, en.nx ρ6 _ H2 (R6.fewer fun a z => ?_) F6 q6⟩
    rcases d5 a (b2 a (b1 a z)) with z' | z'
    · rcases d6 a z' with z' | z'
      · exact z'
      · exact absurd z' (R.btr a z)
    · exact absurd z' (R.btr a z)
end Dl
namespace Dl
open PySem L2
variable [TabN]
def wipeD (ρ : List Slot) : List Nat → List Slot
  | [] => ρ
  | v :: vs => (wipeD ρ vs).set v .nil
def back (ρ ρ' : List Slot) : List Nat → List Slot
  | [] => ρ'
  | v :: vs => (back ρ ρ' vs).set v ((ρ[v]?).getD .nil)
def clean (ρ : List Slot) : List Nat → Prop
  | [] => True
  | v :: vs => (match ρ[v]? with
    | some (.own _ _) => False
    | some (.sto _) => False
    | _ => True) ∧ clean ρ vs
theorem clean_no {ρ : List Slot} : ∀ {vs : List Nat} {i : Nat} {s : Slot}, clean ρ vs → i ∈ vs → ρ[i]? = some s → (h : Hold s := by exact trivial) → False
  | v :: vs, i, s, h, hm, e, hs => by
    rcases List.mem_cons.mp hm with rfl | hm
    · have := h.1; rw [e] at this
      cases s with
      | own b o => exact this
      | sto S => exact this
      | _ => exact hs
    · exact clean_no h.2 hm e hs
theorem clean_of {ρ : List Slot} : ∀ {vs : List Nat}, (∀ (i : Nat) (s : Slot), Hold s → i ∈ vs → ρ[i]? ≠ some s) → clean ρ vs
  | [], _ => trivial
  | v :: vs, h => ⟨by
    cases e : ρ[v]? with
    | none => trivial
    | some s => cases s with
      | own b o => exact h v (.own b o) trivial (by simp) e
      | sto S => exact h v (.sto S) trivial (by simp) e
      | _ => trivial, clean_of fun i s hs hm => h i s hs (List.mem_cons_of_mem _ hm)⟩
theorem wipeD_len (ρ : List Slot) : ∀ vs : List Nat, (wipeD ρ vs).length = ρ.length
  | [] => rfl
  | v :: vs => by rw [wipeD, List.length_set, wipeD_len ρ vs]
theorem wipeD_out {ρ : List Slot} {i : Nat} : ∀ {vs : List Nat}, i ∉ vs → (wipeD ρ vs)[i]? = ρ[i]?
  | [], _ => rfl
  | v :: vs, h => by
    rw [wipeD, List.getElem?_set_ne (fun z => h (by subst z; simp)), wipeD_out (fun z => h (List.mem_cons_of_mem _ z))]
theorem wipeD_in {ρ : List Slot} {i : Nat} {s : Slot} : ∀ {vs : List Nat}, i ∈ vs → (wipeD ρ vs)[i]? = some s → s = .nil
  | v :: vs, hm, e => by
    rw [wipeD] at e
    rcases getElem?_set_of e with ⟨_, z⟩ | ⟨n, z⟩
    · exact z
    · exact wipeD_in ((List.mem_cons.mp hm).elim (fun z => absurd z.symm n) id) z
theorem back_len (ρ ρ' : List Slot) : ∀ vs : List Nat, (back ρ ρ' vs).length = ρ'.length
  | [] => rfl
  | v :: vs => by rw [back, List.length_set, back_len ρ ρ' vs]
theorem back_out {ρ ρ' : List Slot} {i : Nat} : ∀ {vs : List Nat}, i ∉ vs → (back ρ ρ' vs)[i]? = ρ'[i]?
  | [], _ => rfl
  | v :: vs, h => by
    rw [back, List.getElem?_set_ne (fun z => h (by subst z; simp)), back_out (fun z => h (List.mem_cons_of_mem _ z))]
theorem back_in {ρ ρ' : List Slot} {i : Nat} {s : Slot} : ∀ {vs : List Nat}, i ∈ vs → (back ρ ρ' vs)[i]? = some s → s = (ρ[i]?).getD .nil
  | v :: vs, hm, e => by
    rw [back] at e
    rcases getElem?_set_of e with ⟨rfl, z⟩ | ⟨n, z⟩
    · exact z
    · exact back_in ((List.mem_cons.mp hm).elim (fun z => absurd z.symm n) id) z
theorem wipe_in {σ : L2.St} {i : Nat} {x : Option V} : ∀ {vs : List Nat}, i ∈ vs → (wipe σ vs)[i]? = some x → x = none
  | v :: vs, hm, e => by
    rw [wipe] at e
    rcases getElem?_set_of e with ⟨_, z⟩ | ⟨n, z⟩
    · exact z
    · exact wipe_in ((List.mem_cons.mp hm).elim (fun z => absurd z.symm n) id) z
theorem wipe_eq {σ σ' : L2.St} {vs : List Nat} (h : ∀ j, j ∉ vs → σ'[j]? = σ[j]?) (hl : σ'.length = σ.length) : wipe σ' vs = wipe σ vs := by
  refine List.ext_getElem? fun j => ?_
  by_cases hj : j ∈ vs
  · cases e : (wipe σ' vs)[j]? with
    | none =>
      have : (wipe σ vs)[j]? = none := by
        rw [List.getElem?_eq_none_iff] at e ⊢
        rw [wipe_length] at e ⊢
        omega
      rw [this]
    | some x =>
      obtain rfl := wipe_in hj e
      cases e2 : (wipe σ vs)[j]? with
      | none =>
        have h1 := (List.getElem?_eq_some_iff.mp e).1
        rw [List.getElem?_eq_none_iff, wipe_length] at e2
        rw [wipe_length] at h1
        omega
      | some y => obtain rfl := wipe_in hj e2; rfl
  · rw [wipe_out hj, wipe_out hj, h j hj]
theorem own_wipe {ρ : List Slot} {σ : L2.St} {vs : List Nat} (c : clean ρ vs) (a : Addr) : Own (wipeD ρ vs) (wipe σ vs) a ↔ Own ρ σ a := by
  constructor
  · rintro (⟨i, b, o, e1, e2⟩ | ⟨i, S, e1, e2⟩)
    · by_cases hi : i ∈ vs
      · cases wipeD_in hi e1
      · rw [wipeD_out hi] at e1; rw [wipe_out hi] at e2; exact .inl ⟨i, b, o, e1, e2⟩
    · by_cases hi : i ∈ vs
      · cases wipeD_in hi e1
      · rw [wipeD_out hi] at e1; exact .inr ⟨i, S, e1, e2⟩
  · rintro (⟨i, b, o, e1, e2⟩ | ⟨i, S, e1, e2⟩)
    · have hi : i ∉ vs := fun z => clean_no c z e1
      exact .inl ⟨i, b, o, by rw [wipeD_out hi]; exact e1, by rw [wipe_out hi]; exact e2⟩
    · have hi : i ∉ vs := fun z => clean_no c z e1
      exact .inr ⟨i, S, by rw [wipeD_out hi]; exact e1, e2⟩
theorem Rep.wiped {K : PySem.W.Frag} {B : Addr → Prop} {ρ : List Slot} {σ : L2.St} {H : Hp} {vs : List Nat} (R : Rep K B ρ σ H) (c : clean ρ vs) : Rep K B (wipeD ρ vs) (wipe σ vs) H := by
  have av : ∀ a, Av B (wipeD ρ vs) (wipe σ vs) a → Av B ρ σ a := fun a z => z.elim (fun z => .inl ((own_wipe c a).1 z)) .inr
  refine ⟨R.shp.of (by rw [wipeD_len, wipe_length]; exact R.len) (fun i s e => ?_) (fun i b o a e1 e2 => ?_) (fun i S e => ?_), fun i s e => ?_, R.btr, fun a z => R.dis a ((own_wipe c a).1 z), R.tabs⟩
  · rw [wipe_length]
    by_cases hi : i ∈ vs
    · have hl := (List.getElem?_eq_some_iff.mp e).1
      rw [wipeD_len] at hl
      rcases R.tail i _ (List.getElem?_eq_getElem hl) with z | ⟨S, z⟩
      · exact .inl z
      · exact (clean_no c hi (by rw [List.getElem?_eq_getElem hl, z])).elim
    · rw [wipeD_out hi] at e; exact R.tail i s e
  · by_cases hi : i ∈ vs
    · cases wipeD_in hi e1
    · rw [wipeD_out hi] at e1; rw [wipe_out hi] at e2; exact ⟨b, o, e1, e2⟩
  · by_cases hi : i ∈ vs
    · cases wipeD_in hi e
    · rw [wipeD_out hi] at e; exact ⟨S, e, fun _ z => z⟩
  · by_cases hi : i ∈ vs
    · cases wipeD_in hi e; trivial
    · rw [wipeD_out hi] at e
      rw [wipe_out hi]
      exact (R.slot i s e).av av
theorem Rep.unwiped {K : PySem.W.Frag} {B : Addr → Prop} {ρ ρ' : List Slot} {σ σ' : L2.St} {H H' : Hp} {vs : List Nat} (R : Rep K B ρ σ H) (R' : Rep K B ρ' σ' H') (c : clean ρ vs) (c' : clean ρ' vs) (kp : Kp (Own ρ σ) H H')
    (hσ : ∀ j, j ∉ vs → σ'[j]? = σ[j]?) (hl : σ'.length = σ.length) (ho : ∀ a, Own ρ' σ' a → Own ρ σ a) : Rep K B (back ρ ρ' vs) σ H' ∧ ∀ a, Own (back ρ ρ' vs) σ a ↔ Own ρ' σ' a := by
  have no : ∀ {i : Nat} {s : Slot}, Hold s → (back ρ ρ' vs)[i]? = some s → i ∉ vs := fun {i s} hs e z => by
    have w := back_in z e
    cases q : ρ[i]? with
    | none => rw [q] at w; have w : s = .nil := w; subst w; exact hs
    | some t => rw [q] at w; have w : s = t := w; rw [← w] at q; exact clean_no c z q hs
  have own : ∀ a, Own (back ρ ρ' vs) σ a ↔ Own ρ' σ' a := fun a => by
    constructor
    · rintro (⟨i, b, o, e1, e2⟩ | ⟨i, S, e1, e2⟩)
      · have hi := no (s := .own b o) trivial e1
        rw [back_out hi] at e1
        exact .inl ⟨i, b, o, e1, by rw [hσ i hi]; exact e2⟩
      · have hi := no (s := .sto S) trivial e1
        rw [back_out hi] at e1
        exact .inr ⟨i, S, e1, e2⟩
    · rintro (⟨i, b, o, e1, e2⟩ | ⟨i, S, e1, e2⟩)
      · have hi : i ∉ vs := fun z => clean_no c' z e1
        exact .inl ⟨i, b, o, by rw [back_out hi]; exact e1, by rw [← hσ i hi]; exact e2⟩
      · have hi : i ∉ vs := fun z => clean_no c' z e1
        exact .inr ⟨i, S, by rw [back_out hi]; exact e1, e2⟩
  have av : ∀ a, Av B (back ρ ρ' vs) σ a → Av B ρ' σ' a := fun a z => z.elim (fun z => .inl ((own a).1 z)) .inr
  have oldA : ∀ a, Av B (back ρ ρ' vs) σ a → Av B ρ σ a ∨ H a = none := fun a z => .inl (z.elim (fun z => .inl (ho a ((own a).1 z))) .inr)
  refine ⟨⟨R'.shp.of (by rw [back_len]; rw [← hl]; exact R'.len) (fun i s e => ?_) (fun i b o a e1 e2 => ?_) (fun i S e => ?_), fun i s e => ?_, R'.btr, fun a z => R'.dis a ((own a).1 z), R'.tabs⟩, own⟩
  · rw [← hl]
    have hl' := (List.getElem?_eq_some_iff.mp e).1
    rw [back_len] at hl'
    rcases R'.tail i _ (List.getElem?_eq_getElem hl') with z | ⟨S, z⟩
    · exact .inl z
    · have ez : ρ'[i]? = some (.sto S) := by rw [List.getElem?_eq_getElem hl', z]
      have hi : i ∉ vs := fun z => clean_no c' z ez
      rw [back_out hi, ez] at e; cases e; exact .inr ⟨S, rfl⟩
  · have hi := no (s := .own b o) trivial e1
    rw [back_out hi] at e1
    exact ⟨b, o, e1, by rw [hσ i hi]; exact e2⟩
  · have hi := no (s := .sto S) trivial e
    rw [back_out hi] at e
    exact ⟨S, e, fun _ z => z⟩
  · by_cases hi : i ∈ vs
    · have w := back_in hi e
      cases q : ρ[i]? with
      | none => rw [q] at w; cases w; trivial
      | some t =>
        rw [q] at w
        have w : s = t := w
        subst w
        exact (R.slot i s q).mono kp (fun a z => .inl z) oldA (fun b o a e1 _ => by subst e1; exact (clean_no c hi q).elim) fun T a e1 _ => by subst e1; exact (clean_no c hi q).elim
    · rw [back_out hi] at e
      have z := R'.slot i s e
      rw [hσ i hi] at z
      exact z.av av
theorem Rep.updB {K : PySem.W.Frag} {B : Addr → Prop} {ρ : List Slot} {σ : L2.St} {H : Hp} {a : Addr} {xs ys : List V} (R : Rep K B ρ σ H) (hb : B a) (e : H a = some (.lst xs)) : Rep K B ρ σ (L2.upd H a (.lst ys)) := by
  have kp : Kp (fun x => x = a) H (L2.upd H a (.lst ys)) := Kp.upd rfl fun o z => by rw [e] at z; cases z; exact fun q => q
  have hs : ∀ x, x = a → Av B ρ σ x := fun x z => by rw [z]; exact .inr hb
  refine ⟨R.shp, fun i s h => ?_, fun x z => kp.trk x (R.btr x z), R.dis, kp.tab R.tabs⟩
  exact (R.slot i s h).mono kp hs (fun x z => .inl z) (fun b o y e1 e2 z => R.dis y (.inl ⟨i, b, o, by rw [h, e1], e2⟩) (by rw [z]; exact hb)) fun T y e1 e2 z => R.dis y (.inr ⟨i, T, by rw [h, e1], e2⟩) (by rw [z]; exact hb)
theorem blk_no {ρ ρ5 : List Slot} {js vs : List Nat} (hj : ∀ j, j ∈ js → j ∈ vs) (out : ∀ j, j ∉ js → ρ5[j]? = (wipeD ρ vs)[j]?) (inn : ∀ (j : Nat) (s : Slot), Hold s → j ∈ js → ρ5[j]? ≠ some s) :
    ∀ (j : Nat) (s : Slot), Hold s → j ∈ vs → ρ5[j]? ≠ some s := fun j s hs hm z => by
  by_cases hjj : j ∈ js
  · exact inn j s hs hjj z
  · rw [out j hjj] at z; have := wipeD_in hm z; subst this; exact hs
theorem blk_own {ρ ρ5 : List Slot} {σ σ5 : L2.St} {vs : List Nat} (no5 : ∀ (j : Nat) (s : Slot), Hold s → j ∈ vs → ρ5[j]? ≠ some s) (hρ : ∀ j, j ∉ vs → ρ5[j]? = ρ[j]?) (hσ : ∀ j, j ∉ vs → σ5[j]? = σ[j]?) (a : Addr) (h : Own ρ5 σ5 a) : Own ρ σ a := by
  rcases h with ⟨j, b, o, e1, e2⟩ | ⟨j, S, e1, e2⟩
  · have hn : j ∉ vs := fun z => no5 j _ (by exact trivial) z e1
    exact .inl ⟨j, b, o, by rw [← hρ j hn]; exact e1, by rw [← hσ j hn]; exact e2⟩
  · have hn : j ∉ vs := fun z => no5 j _ (by exact trivial) z e1
    exact .inr ⟨j, S, by rw [← hρ j hn]; exact e1, e2⟩
theorem blk_clean {ρ5 ρ6 : List Slot} {vs : List Nat} (no5 : ∀ (j : Nat) (s : Slot), Hold s → j ∈ vs → ρ5[j]? ≠ some s) (s6 : Sub ρ6 ρ5) : clean ρ6 vs := clean_of fun i s hs hm z => by
  cases s with
  | own b o => obtain ⟨o', z'⟩ := s6.old i b o z; exact no5 i (.own b o') trivial hm z'
  | sto S => obtain ⟨S', z', _⟩ := s6.sto i S z; exact no5 i (.sto S') trivial hm z'
  | _ => exact hs
theorem back_no {ρ ρ6 : List Slot} {vs : List Nat} (c : clean ρ vs) {i : Nat} {s : Slot} (hs : Hold s) (e : (back ρ ρ6 vs)[i]? = some s) : i ∉ vs := fun z => by
  have w := back_in z e
  cases q : ρ[i]? with
  | none => rw [q] at w; have w : s = .nil := w; subst w; exact hs
  | some t => rw [q] at w; have w : s = t := w; rw [← w] at q; exact clean_no c z q hs
theorem back_clean {ρ ρ6 : List Slot} {vs : List Nat} (c : clean ρ vs) : clean (back ρ ρ6 vs) vs := clean_of fun i s hs hm z => back_no c hs z hm
theorem back_sub {ρ ρ5 ρ6 : List Slot} {vs : List Nat} (c : clean ρ vs) (hρ : ∀ j, j ∉ vs → ρ5[j]? = ρ[j]?) (s6 : Sub ρ6 ρ5) : Sub (back ρ ρ6 vs) ρ := by
  refine ⟨fun i b o z => ?_, fun i o z => ?_, fun i S z => ?_, fun i S z => ?_⟩
  · have hn := back_no (s := .own b o) c trivial z
    rw [back_out hn] at z
    obtain ⟨o', z'⟩ := s6.old i b o z
    exact ⟨o', by rw [← hρ i hn]; exact z'⟩
  · have hn : i ∉ vs := fun hm => clean_no c hm z
    obtain ⟨o', z'⟩ := s6.lent i o (by rw [hρ i hn]; exact z)
    exact ⟨o', by rw [back_out hn]; exact z'⟩
  · have hn := back_no (s := .sto S) c trivial z
    rw [back_out hn] at z
    obtain ⟨S', z', k⟩ := s6.sto i S z
    exact ⟨S', by rw [← hρ i hn]; exact z', k⟩
  · have hn : i ∉ vs := fun hm => clean_no c hm z
    obtain ⟨S', z'⟩ := s6.stl i S (by rw [hρ i hn]; exact z)
    exact ⟨S', by rw [back_out hn]; exact z'⟩
theorem Fr.any {ρ : List Slot} {σ : L2.St} {H : Hp} : Fr (fun _ => none) (ltOf ρ σ) ρ σ H :=
  { keep := fun a o e _ _ => (nomatch e), imm := fun a o e _ => (nomatch e), trk := fun a e => absurd rfl e, ownf := fun i o a _ _ => rfl, lent := fun i a => Iff.rfl, sto := fun i S a e1 e2 => .inl ⟨S, e1, e2⟩, stl := fun i => Iff.rfl }
def MTs (X : Cx) (ifs : List Expr) (t : WT) : Prop := PTs X ifs (ttOf X.K t)
def wYes : WT := fun ρ Q => Q true ρ
theorem mts_nil {X : Cx} : MTs X [] wYes := ⟨fun pins s σ H Q I ⟨B, ρ, Q', R, hw, hq⟩ => pts_nil.run pins s σ H Q I (hq true ρ H R (Sub.refl ρ) Kp.refl hw)⟩
theorem mts_one {X : Cx} {c : Expr} {t : WT} (h : MT X c t) : MTs X [c] t := pts_one h
def lcBody (t : WT) (e : WE) (ρ : List Slot) (vs : List Nat) (k1 : D → List Slot → Prop) (k0 : List Slot → Prop) : List Slot → Prop := fun ρ2 => t ρ2 fun b ρ3 => if b = true then e ρ3 fun s ρ4 => frz ρ4 s fun x ρ5 => k1 x (back ρ ρ5 vs) else k0 (back ρ ρ3 vs)
def lcl (g : WG) (t : WT) (e : WE) (vs : List Nat) (Q : List D → List Slot → Prop) : List D → List Slot → List D → Prop
  | [], ρ, acc => Q acc ρ
  | d :: ds, ρ, acc => g d (wipeD ρ vs) (lcBody t e ρ vs (fun x ρ5 => acc.length < sizeLine ∧ lcl g t e vs Q ds ρ5 (acc ++ [x])) fun ρ3 => lcl g t e vs Q ds ρ3 acc)
def wLc (wi : WI) (g : WG) (t : WT) (e : WE) (vs : List Nat) : WE := fun ρ Q => wi ρ fun ds ρ1 => clean ρ1 vs ∧ lcl g t e vs (fun acc ρ2 => Q (.own false (.lst acc)) ρ2) ds ρ1 []
structure Acc (K : PySem.W.Frag) (B : Addr → Prop) (D : Addr) (ρ : List Slot) (σ : L2.St) (H : Hp) (acc : List Dl.D) : Prop where
  rep : Rep K B ρ σ H
  bd : B D
  at' : ∃ xs, H D = some (.lst xs) ∧ RepL K (Av B ρ σ) H xs acc
theorem Acc.step {K : PySem.W.Frag} {B : Addr → Prop} {D : Addr} {ρ ρ' : List Slot} {σ : L2.St} {H H' : Hp} {acc : List Dl.D} (A : Acc K B D ρ σ H acc) (R : Rep K B ρ' σ H') (k : Kp (Own ρ σ) H H') (sub : ∀ a, Own ρ' σ a → Own ρ σ a) : Acc K B D ρ' σ H' acc := by
  obtain ⟨xs, e, r⟩ := A.at'
  exact ⟨R, A.bd, xs, k.keep _ _ e (fun z => A.rep.dis D z A.bd), r.mono k (fun a z => .inl z) fun a z => .inl (z.elim (fun z => .inl (sub a z)) .inr)⟩
theorem Acc.push {K : PySem.W.Frag} {B : Addr → Prop} {D : Addr} {ρ : List Slot} {σ : L2.St} {H : Hp} {acc : List Dl.D} {y : V} {d : Dl.D} (A : Acc K B D ρ σ H acc) (ry : RepV K (Av B ρ σ) H y d) :
    ∃ xs, H D = some (.lst xs) ∧ xs.length = acc.length ∧ Acc K B D ρ σ (L2.upd H D (.lst (xs ++ [y]))) (acc ++ [d]) := by
  obtain ⟨xs, e, r⟩ := A.at'
  have kp : Kp (fun x => x = D) H (L2.upd H D (.lst (xs ++ [y]))) := Kp.upd rfl fun o z => by rw [e] at z; cases z; exact fun q => q
  have hs : ∀ x, x = D → Av B ρ σ x := fun x z => by rw [z]; exact .inr A.bd
  exact ⟨xs, e, r.length, A.rep.updB A.bd e, A.bd, _, upd_same, (r.mono kp hs fun x z => .inl z).append (.one (ry.mono kp hs fun x z => .inl z))⟩
theorem lcTurn {K : PySem.W.Frag} {B : Addr → Prop} {ρ : List Slot} {σ : L2.St} {H H3 : Hp} {js vs : List Nat} {g : WG} {t : WT} {e : WE} {d : D} {x : V} {k1 : D → List Slot → Prop} {k0 : List Slot → Prop} {Q1 : V → Hp → Prop} {Q0 : Hp → Prop}
    (hj : ∀ j, j ∈ js → j ∈ vs) (R : Rep K B ρ σ H) (c : clean ρ vs) (ex : Ex H H3) (rv : RepV K (Av B ρ σ) H3 x d) (hg : g d (wipeD ρ vs) (lcBody t e ρ vs k1 k0))
    (h1 : ∀ y u ρ' H', Rep K B ρ' σ H' → clean ρ' vs → Sub ρ' ρ → Kp (Own ρ σ) H H' → RepV K (Av B ρ' σ) H' y u → k1 u ρ' → Q1 y H')
    (h0 : ∀ ρ' H', Rep K B ρ' σ H' → clean ρ' vs → Sub ρ' ρ → Kp (Own ρ σ) H H' → k0 ρ' → Q0 H') :
    gOf K js g x (wipe σ vs) H3 fun σ2 H2 => wipe σ2 vs = wipe σ vs ∧ ttOf K t σ2 H2 fun b H4 => if b = true then tOf K e σ2 H4 fun y H5 => Q1 y H5 else Q0 H4 := by
  have R3 := R.ex (B' := B) ex fun a z => .inl z
  have R4 := R3.wiped c
  refine ⟨B, _, _, _, d, _, R4, Fr.any, rv.av (fun a z => z.elim (fun z => .inl ((own_wipe c a).1 z)) .inr), hg, fun ρ5 σ5 R5 F5 out inn hl q => ?_⟩
  have hσ : ∀ j, j ∉ vs → σ5[j]? = σ[j]? := fun j hn => by rw [(out j fun z => hn (hj j z)).1, wipe_out hn]
  have hl5 : σ5.length = σ.length := by rw [hl, wipe_length]
  have hρ : ∀ j, j ∉ vs → ρ5[j]? = ρ[j]? := fun j hn => by rw [(out j fun z => hn (hj j z)).2, wipeD_out hn]
  have no5 := blk_no hj (fun j z => (out j z).2) inn
  have own5 : ∀ a, Own ρ5 σ5 a → Own ρ σ a := blk_own no5 hρ hσ
  have k3 : Kp (Own ρ σ) H H3 := ex.kp
  -- from a state within the block to one behind it
  have fin : ∀ {ρ6 : List Slot} {H6 : Hp}, Rep K B ρ6 σ5 H6 → Sub ρ6 ρ5 → Kp (Own ρ5 σ5) H3 H6 → Rep K B (back ρ ρ6 vs) σ H6 ∧ clean (back ρ ρ6 vs) vs ∧ Sub (back ρ ρ6 vs) ρ ∧ Kp (Own ρ σ) H H6 ∧ ∀ a, Own (back ρ ρ6 vs) σ a ↔ Own ρ6 σ5 a := fun {ρ6 H6} R6 s6 k6 => by
    have c6 : clean ρ6 vs := blk_clean no5 s6
    have k36 := k3.trans k6 own5
    obtain ⟨Rb, ob⟩ := R.unwiped R6 c c6 k36 hσ hl5 (fun a z => own5 a (s6.own a z))
    exact ⟨Rb, back_clean c, back_sub c hρ s6, k36, ob⟩
  refine ⟨wipe_eq hσ hl5, B, ρ5, _, R5, q, fun b ρ6 H6 R6 s6 k6 q6 => ?_⟩
  cases b with
  | false =>
    obtain ⟨a1, a2, a3, a4, _⟩ := fin R6 s6 k6
    exact h0 _ _ a1 a2 a3 a4 q6
  | true =>
    refine ⟨B, ρ6, _, R6, q6, fun s y ρ7 H7 post s7 k7 q7 => ?_⟩
    obtain ⟨B8, b8, b8', R8, P8⟩ := post.pend
    obtain ⟨u, ρ9, q9, R9, s9, r9⟩ := frz_ok (B0 := B) R8 P8 b8 R6.btr q7
    obtain ⟨a1, a2, a3, a4, a5⟩ := fin (R9.fewer b8) ((s6.trans s7).trans s9) (k6.trans k7 fun a z => s6.own a z)
    exact h1 _ u _ _ a1 a2 a3 a4 (r9.av fun a z => z.elim (fun z => .inl ((a5 a).1 z)) .inr) q9
theorem lc_weak {K : PySem.W.Frag} {wi : WI} {g : WG} {t : WT} {e : WE} {js vs : List Nat} (hj : ∀ j, j ∈ js → j ∈ vs) {σ : L2.St} {H : Hp} {Q : VK} (h : tOf K (wLc wi g t e vs) σ H Q) : tLc (iOf K wi) (gOf K js g) (ttOf K t) (tOf K e) vs σ H Q := by
  obtain ⟨B, ρ, Q', R, hw, hq⟩ := h
  refine ⟨B, ρ, _, R, hw, fun ds J ρ1 H1 R1 sub kp yl ⟨cl, q⟩ Dd nD => ?_⟩
  have exD := Ex.new (o := HO.lst []) nD
  have nB : ¬ B Dd := fun z => R1.btr Dd z nD
  have nO : ¬ Own ρ1 σ Dd := fun z => R1.own_trk z nD
  refine ⟨fun i m H2 => ∃ ρ2 acc, m = ds.length - i ∧ i ≤ ds.length ∧ Acc K (fun x => B x ∨ x = Dd) Dd ρ2 σ H2 acc ∧ Sub ρ2 ρ1 ∧ Kp (fun a => Own ρ1 σ a ∨ a = Dd) (L2.upd H1 Dd (.lst [])) H2 ∧ clean ρ2 vs ∧ lcl g t e vs (fun acc ρ2 => Q' (.own false (.lst acc)) ρ2) (ds.drop i) ρ2 acc,
    ⟨ds.length, ρ1, [], rfl, Nat.zero_le _, ⟨R1.ex exD fun a z => z.elim .inl fun z => .inr ⟨by rw [z]; exact nD, by rw [z, upd_same]; exact nofun⟩, .inr rfl, [], upd_same, .nil⟩, Sub.refl ρ1, Kp.refl, cl, q⟩, ?_⟩
  rintro i m H2 ⟨ρ2, acc, rfl, hi, A2, s2, k2, c2, q2⟩
  have k12 : Kp0 (Av B ρ1 σ) H1 H2 := ⟨fun a o z n t => k2.keep a o (exD a o z) (fun w => w.elim (fun w => n (.inl w)) fun w => (by rw [w, nD] at z; cases z)) t, fun a o z im => k2.imm a o (exD a o z) im⟩
  obtain ⟨y1, y2⟩ := yl (Av (fun x => B x ∨ x = Dd) ρ2 σ) H2 k12 (fun a z => by
    rcases z with z | z | z
    · exact .inl (.inl (s2.own a z))
    · exact .inl (.inr z)
    · exact .inr (by rw [z]; exact nD)) (fun a z => A2.rep.av_trk z) i
  by_cases hlt : i < ds.length
  · have e0 := List.getElem?_eq_getElem hlt
    obtain ⟨go, y3⟩ := y2 _ e0
    rw [drop_cons e0] at q2
    refine .inr ⟨go, fun H' => ∃ ρ' acc', Acc K (fun x => B x ∨ x = Dd) Dd ρ' σ H' acc' ∧ Sub ρ' ρ1 ∧ Kp (fun a => Own ρ1 σ a ∨ a = Dd) (L2.upd H1 Dd (.lst [])) H' ∧ clean ρ' vs ∧ lcl g t e vs (fun acc ρ2 => Q' (.own false (.lst acc)) ρ2) (ds.drop (i + 1)) ρ' acc', fun H' ⟨ρ', acc', z1, z2, z3, z4, z5⟩ => ⟨_, by omega, ρ', acc', rfl, hlt, z1, z2, z3, z4, z5⟩, fun x H3 yx => ?_⟩
    obtain ⟨ex3, rv⟩ := y3 x H3 yx
    refine lcTurn hj A2.rep c2 ex3 rv q2 (fun y u ρ' H' R' c' s' k' ry hk => ?_) fun ρ' H' R' c' s' k' hk => ?_
    · have A3 := A2.step R' k' (fun a z => s'.own a z)
      obtain ⟨xs, ex, exl, A4⟩ := A3.push ry
      refine ⟨xs, ex, by rw [exl]; exact hk.1, ρ', _, A4, s2.trans s', (k2.trans k' fun a z => .inl (s2.own a z)).trans (Kp.upd (.inr rfl) fun o z => by rw [ex] at z; cases z; exact fun q => q) fun a z => z, c', hk.2⟩
    · exact ⟨ρ', acc, A2.step R' k' (fun a z => s'.own a z), s2.trans s', k2.trans k' fun a z => .inl (s2.own a z), c', hk⟩
  · have e0 : i = ds.length := by omega
    subst e0
    rw [List.drop_length] at q2
    obtain ⟨xs, ex, rx⟩ := A2.at'
    refine .inl ⟨y1 rfl, hq _ _ ρ2 H2 (postO (b := false) (o := .lst acc) (kp.back nD) nB A2.rep ⟨xs, ex, rx⟩) (sub.trans s2) ?_ q2⟩
    refine ⟨⟨fun a o z n t => k2.keep a o (exD a o (kp.keep a o z n t)) (fun w => w.elim (fun w => n (sub.own a w)) fun w => ?_) t, fun a o z im => k2.imm a o (exD a o (kp.imm a o z im)) im⟩, fun a z => k2.trk a (exD.kp (S := fun _ => False) |>.trk a (kp.trk a z)), fun _ => A2.rep.tabs⟩
    have := kp.back (p := a) (by rw [w]; exact nD)
    rw [z] at this; cases this
section
variable {X : Cx} {elt tg iter : Expr} {ifs : List Expr} {scope : Scope} {own : List (Str × Nat)} {pos spos : Pos} {wi : WI} {g : WG} {js : List Nat} {t : WT} {e : WE}
theorem me_lc (hc : X.calm = true) (hN : X.N.Nodup) (hi : MI X tg iter wi) (ok : BlkOk X.N X.env.scope scope own) (hj : ∀ j, j ∈ js → j ∈ own.map (·.2))
    (hg : ∀ (s : Shared) (H : Hp) (C : Addr) (cl : List (Str × Addr)) (fp : List Addr), MG (X.blk s H scope (compEnvC scope cl C X.env) fp) tg js g)
    (ht : ∀ (s : Shared) (H : Hp) (C : Addr) (cl : List (Str × Addr)) (fp : List Addr), MTs (X.blk s H scope (compEnvC scope cl C X.env) fp) ifs t)
    (he : ∀ (s : Shared) (H : Hp) (C : Addr) (cl : List (Str × Addr)) (fp : List Addr), ME (X.blk s H scope (compEnvC scope cl C X.env) fp) elt e) (hs : ∀ x, foldedSetIterable iter X.env x = pure x := by intro _; rfl) :
    ME X (.ListComp elt [⟨tg, iter, ifs, 0⟩] scope pos) (wLc wi g t e (own.map (·.2))) := PE_weak (pe_lc (g := gOf X.K js g) (tt := ttOf X.K t) (te := tOf X.K e) hc hN hi ok hg ht he hs) fun σ H Q h => lc_weak hj h
end
end Dl
namespace Dl
open PySem L2
variable [TabN]
structure FnG (P : Program) (w : World) (K : PySem.W.Frag) (mg : Str → Option Value) (base : Heap) (CX : CXT) (k : Nat) (f : Addr) (fd : FuncData) (ps : List Str) (sp : Sp) : Prop where
  len : ∀ vs H Q E, sp vs H Q E → vs.length = ps.length
  run : ∀ (A : Around) (outer : List Env) (s : Shared) (H : Hp) (args : Args) (us : List Value) (vs : List V) (Q : VK) (E : XK), Room k A → A.guards = some [] →
    Env0 P w K mg base A outer s H → BindsTo s fd args (ps.zip us) → Vals vs us → sp vs H Q E → codeAny (model P w) A (.call (.ref f) args) (CR CX outer P w H s Q E) s
theorem FnG.mono {P : Program} {w : World} {K : PySem.W.Frag} {mg : Str → Option Value} {base : Heap} {CX : CXT} {j k : Nat} {f : Addr} {fd : FuncData} {ps : List Str} {sp : Sp} (F : FnG P w K mg base CX j f fd ps sp) (h : j ≤ k) : FnG P w K mg base CX k f fd ps sp :=
  ⟨F.len, fun A outer s H args us vs Q E hr => F.run A outer s H args us vs Q E (hr.mono h)⟩
section
variable {X : Cx} {CX : CXT} {k : Nat} {f : Addr} {fd : FuncData} {ps ks : List Str} {sp : Sp} {dvs : List V} {dus : List Value} {E : XK} {x : Str} {p pos : Pos} {e : Expr} {es : List Expr} {t tk : TA}
theorem run_g {pins : List (Addr × Obj)} {σ : L2.St} {H : Hp} {s : Shared} {Q : VK} {us : List Value} {vs : List V} (F : FnG X.prog X.w X.K X.mg X.base CX k f fd ps sp) (hr : Room k X.A) (hgu : X.A.guards = some []) (hb : Binds X.K fd ps dus) (hd : Vals dvs dus) (hx : Passes CX X E)
    (I : Inv X pins σ H s) (r : Vals vs us) (h : sp (vs ++ dvs) H Q E) : wpAny (model X.prog X.w) X.A (call (.ref f) us) (EP X pins σ Q) X.xe s := by
  have r2 := Vals.append r hd
  have hl := r2.length.symm.trans (F.len _ _ _ _ h)
  refine wpAny_call (codeAny_mono (F.run X.A X.stack s H ⟨us, []⟩ (us ++ dus) (vs ++ dvs) Q E hr hgu I.env0 (hb s us I.kIn hl) r2 h) fun res s' hq => ?_)
  match res, hq with
  | .ok (.ret u), hq => exact I.after hq
  | .ok .next, hq => exact hq.elim
  | .ok .brk, hq => exact hq.elim
  | .ok .cont, hq => exact hq.elim
  | .error e, hq => exact hx pins σ H s e s' I hq
theorem pe_callG (F : FnG X.prog X.w X.K X.mg X.base CX k f fd ps sp) (hr : Room k X.A) (hgu : X.A.guards = some []) (hg : Gl X x) (hm : X.mg x = some (.ref f)) (hk : PySem.W.keepIn X.K (.ref f) = true) (hb : Binds X.K fd ps dus) (hd : Vals dvs dus) (hx : Passes CX X E)
    (ha : PA X (e :: es) t) (hdb : (x == ("__debug__" : Str)) = false := by decide) (he : starEach (e :: es) X.env = (false, eval e X.env) :: starEach es X.env := by rfl) (hpl : (backTo pos (starEach es X.env)).any (·.1) = false := by rfl) :
    PE X (.Call (.Name x p) (e :: es) [] pos) (tCall sp dvs E t) := ⟨fun pins s σ H Q I h =>
  wpAny_Call_Name_kw (ld_glob I hg hm (PySem.W.callWith_K (h₀ := X.base) I.ok.mod.kin hk (thn (ha.run pos pins s σ H _ I h) fun us s1 ⟨vs, H1, I1, r, q⟩ => ⟨I1.kIn, run_g F hr hgu hb hd hx I1 r q⟩) he hpl) hdb)⟩
variable {kws : List Keyword} {gU : List Value → List Value → List Value} {gV : List V → List V → List V}
end
def spOf (K : PySem.W.Frag) (n : Nat) (C : WE) : Sp := fun vs H Q _ => vs.length = n ∧ ∃ (B : Addr → Prop) (args : List Slot) (Q' : Slot → List Slot → Prop), Rep K B args (vs.map some) H ∧ args.length = vs.length ∧ C args Q' ∧
  ∀ s v ρ' H', Post K B ρ' (vs.map some) H H' s v → Sub ρ' args → Kp (Own args (vs.map some)) H H' → Q' s ρ' → Q v H'
def wCall (C : WE) (ws : List WE) : WE := fun ρ Q => wArgs ws ρ fun ss ρ1 => frzL ρ1 ss fun ds ρ2 => ds.length = ws.length ∧ C (ds.map .fro) fun r _ => match r with
  | .fro d => Q (.fro d) ρ2
  | .own _ o => Q (.own false o) ρ2
  | _ => False
theorem fros_hold {ds : List D} {i : Nat} {s : Slot} (e : (ds.map Slot.fro)[i]? = some s) : ¬ Hold s := by
  rw [List.getElem?_map] at e
  cases q : ds[i]? with
  | none => rw [q] at e; cases e
  | some d => rw [q] at e; cases e; exact fun z => z
theorem fros_own {ds : List D} {σ : L2.St} {a : Addr} : ¬ Own (ds.map .fro) σ a := by
  rintro (⟨i, b, o, e, _⟩ | ⟨i, S, e, _⟩)
  · exact fros_hold e trivial
  · exact fros_hold e trivial
theorem fros_shape {ds : List D} {σ : L2.St} (h : σ.length = ds.length) : Shape (ds.map .fro) σ := by
  refine ⟨by rw [List.length_map, h]; exact Nat.le_refl _, fun i s e => .inl ?_, fun i j b o b' o' a e _ _ _ => (fros_hold e trivial).elim, fun i j S b o a e _ _ => (fros_hold e trivial).elim, fun i j S T e _ => (fros_hold e trivial).elim⟩
  have := (List.getElem?_eq_some_iff.mp e).1
  rw [List.length_map] at this
  omega
theorem repL_rep {K : PySem.W.Frag} {A : Addr → Prop} {H : Hp} (ht : ∀ a, A a → H a ≠ none) (tb : TabsN H) : ∀ {vs : List V} {ds : List D}, RepL K A H vs ds → Rep K A (ds.map .fro) (vs.map some) H := fun {vs ds} r => by
  have no := fun a => fros_own (ds := ds) (σ := vs.map some) (a := a)
  refine ⟨fros_shape (by rw [List.length_map, r.length]), fun i s e => ?_, ht, fun a z => (no a z).elim, tb⟩
  · rw [List.getElem?_map] at e
    cases q : ds[i]? with
    | none => rw [q] at e; cases e
    | some d =>
      rw [q] at e
      cases e
      obtain ⟨v, e1, rv⟩ := r.get q
      exact ⟨v, by rw [List.getElem?_map, e1]; rfl, rv.av fun a z => z.elim (fun z => (no a z).elim) id⟩
section
variable {K : PySem.W.Frag} {C : WE} {B : Addr → Prop} {ρ : List Slot} {σ : L2.St} {H : Hp}
theorem call_ok {ws : List WE} {Q' : Slot → List Slot → Prop} {Q : VK} {E : XK} (R : Rep K B ρ σ H) (hw : wCall C ws ρ Q') (hq : ∀ s v ρ' H', Post K B ρ' σ H H' s v → Sub ρ' ρ → Kp (Own ρ σ) H H' → Q' s ρ' → Q v H') :
    taOf K ws σ H fun vs H1 => spOf K ws.length C (vs ++ []) H1 Q E := by
  refine args_frz R hw fun ds vs ρ2 H2 R2 r sub kp ⟨hl, hC⟩ => ?_
  rw [List.append_nil]
  refine ⟨by rw [r.length]; exact hl, Av B ρ2 σ, ds.map .fro, _, repL_rep (fun a z => R2.av_trk z) R2.tabs r, by rw [List.length_map, r.length], hC, fun s v ρ' H' post _ k3 h => ?_⟩
  have ex : Kp (fun _ => False) H2 H' := k3.mono fun a z => fros_own z
  have k' : Kp (Own ρ σ) H H' := kp.trans (ex.mono fun _ z => z.elim) fun _ z => z
  match s, post, h with
  | .fro d, post, h => exact hq _ _ ρ2 H' (postF (R2.same ex fun a z => .inl z) (post.2.av fun a z => .inr z)) sub k' h
  | .own b o, ⟨a, hv, n, nb, R', q⟩, h =>
    subst hv
    refine hq _ _ ρ2 H' (postO (b := false) (kp.back n) (fun z => R2.btr a z n) (R2.same ex fun x z => z.elim .inl fun z => .inr ⟨by rw [z]; exact n, by rw [z]; exact q.trk⟩) (q.av fun x z => ?_)) sub k' h
    rcases z with z | z | z
    · exact .inr (.inl (.inl z))
    · exact .inr (.inl (.inr z))
    · exact .inr (.inr z)
end
section
variable {X : Cx} {CX : CXT} {k : Nat} {f : Addr} {fd : FuncData} {ps : List Str} {E : XK} {x : Str} {p pos : Pos} {e : Expr} {es : List Expr} {ws : List WE} {C : WE} {n : Nat}
theorem me_call (F : FnG X.prog X.w X.K X.mg X.base CX k f fd ps (spOf X.K n C)) (hr : Room k X.A) (hgu : X.A.guards = some []) (hg : Gl X x) (hm : X.mg x = some (.ref f)) (hk : PySem.W.keepIn X.K (.ref f) = true) (hb : Binds X.K fd ps []) (hx : Passes CX X E)
    (ha : MA X (e :: es) ws) (hn : ws.length = n := by rfl) (hdb : (x == ("__debug__" : Str)) = false := by decide) (he : starEach (e :: es) X.env = (false, eval e X.env) :: starEach es X.env := by rfl) (hpl : (backTo pos (starEach es X.env)).any (·.1) = false := by rfl) :
    ME X (.Call (.Name x p) (e :: es) [] pos) (wCall C ws) := by
  subst hn
  exact me_of (pe_callG F hr hgu hg hm hk hb .nil hx ha hdb he hpl) fun B ρ σ H Q' Q R hw hq => call_ok R hw hq
end
end Dl
namespace Dl
open PySem L2
variable [TabN]
theorem Rep.mutK {K : PySem.W.Frag} {B B' : Addr → Prop} {ρ : List Slot} {σ : L2.St} {H H' : Hp} {i : Nat} {b : Bool} {o o' : O} {a : Addr} (R : Rep K B ρ σ H) (h : ρ[i]? = some (.own b o)) (ha : σ[i]? = some (some (.ref a))) (kp : Kp (fun x => x = a) H H')
    (hb : ∀ x, B' x → B x ∨ (H x = none ∧ H' x ≠ none)) (r : OOk K (Av B' ρ σ) H' a o') : Rep K B' (ρ.set i (.own b o')) σ H' ∧ Sub (ρ.set i (.own b o')) ρ ∧ Kp (Own ρ σ) H H' := by
  have hi := (List.getElem?_eq_some_iff.mp h).1
  have oa : Own ρ σ a := .inl ⟨i, b, o, h, ha⟩
  have ow := fun x => own_upd (σ := σ) (o' := o') h x
  have av0 : ∀ x, Av B' (ρ.set i (.own b o')) σ x → Av B' ρ σ x := fun x z => z.elim (fun z => .inl ((ow x).1 z)) .inr
  have av : ∀ x, Av B' (ρ.set i (.own b o')) σ x → Av B ρ σ x ∨ H x = none := fun x z => (av0 x z).elim (fun z => .inl (.inl z)) fun z => (hb x z).elim (fun z => .inl (.inr z)) fun z => .inr z.1
  have hs : ∀ x, x = a → Av B ρ σ x := fun x z => by rw [z]; exact .inl oa
  refine ⟨⟨R.shp.sub (List.length_set) (sub_upd h), fun j s e => ?_, fun x z => (hb x z).elim (fun z => kp.trk x (R.btr x z)) fun z => z.2, fun x z w => ?_, kp.tab R.tabs⟩, sub_upd h, kp.mono fun x z => by rw [z]; exact oa⟩
  · rcases getElem?_set_of e with ⟨rfl, rfl⟩ | ⟨n, z⟩
    · exact ⟨a, ha, r.av av0⟩
    · refine (R.slot j s z).mono kp hs av (fun c p y e1 e2 z' => ?_) fun T y e1 e2 z' => ?_
      · subst e1; subst z'; exact n (R.inj i j b o c p _ h z ha e2)
      · subst e1; subst z'; exact e2 (R.snd j i T b o _ z h ha)
  · have z' := (ow x).1 z
    rcases hb x w with w | w
    · exact R.dis x z' w
    · exact R.own_trk z' w.1
def wCallP (C : WE) (i : Nat) (ws : List WE) : WE := fun ρ Q => (∃ b o, ρ[i]? = some (Slot.own b o)) ∧ wArgs ws ρ fun ss ρ1 => frzL ρ1 ss fun ds ρ2 => ds.length = ws.length ∧ match ρ2[i]? with
  | some (.own b o) => C (.own true o :: ds.map .fro) fun r outs => match outs with
    | .own true o' :: _ => (match r with
      | .fro d => Q (.fro d) (ρ2.set i (.own b o'))
      | .own _ u => Q (.own false u) (ρ2.set i (.own b o'))
      | _ => False)
    | _ => False
  | _ => False
section
variable {K : PySem.W.Frag} {C : WE} {B : Addr → Prop} {ρ : List Slot} {σ : L2.St} {H : Hp}
theorem rep_lent {a : Addr} {o : O} {A : Addr → Prop} {vs : List V} {ds : List D} (ht : ∀ x, A x → H x ≠ none) (tb : TabsN H) (ha : OOk K A H a o) (hA : ∀ x, x = a → A x) (r : RepL K A H vs ds) :
    Rep K (fun x => A x ∧ x ≠ a) (.own true o :: ds.map .fro) (some (.ref a) :: vs.map some) H ∧ ∀ x, Own (.own true o :: ds.map .fro) (some (.ref a) :: vs.map some) x → x = a := by
  have own : ∀ x, Own (.own true o :: ds.map .fro) (some (.ref a) :: vs.map some) x → x = a := fun x z => by
    rcases z with ⟨i, b, o', e1, e2⟩ | ⟨i, S, e1, e2⟩
    · cases i with
      | zero => cases e2; rfl
      | succ i => exact (fros_hold (ds := ds) (i := i) (s := .own b o') (by simpa using e1) trivial).elim
    · cases i with
      | zero => cases e1
      | succ i => exact (fros_hold (ds := ds) (i := i) (s := .sto S) (by simpa using e1) trivial).elim
  have av : ∀ x, Av (fun x => A x ∧ x ≠ a) (.own true o :: ds.map .fro) (some (.ref a) :: vs.map some) x → A x := fun x z => z.elim (fun z => hA x (own x z)) fun z => z.1
  refine ⟨⟨⟨by simp [r.length], fun i s e => .inl (by have := (List.getElem?_eq_some_iff.mp e).1; simpa [r.length] using this), fun i j b o1 b' o2 x e1 e2 _ _ => ?_, fun i j S b o x e1 e2 e3 => ?_, fun i j S T e1 e2 => ?_⟩, fun i s e => ?_, fun x z => ht x z.1, fun x z w => w.2 (own x z), tb⟩, own⟩
  · cases i with
    | zero => cases j with
      | zero => rfl
      | succ j => exact (fros_hold (ds := ds) (i := j) (s := .own b' o2) (by simpa using e2) trivial).elim
    | succ i => exact (fros_hold (ds := ds) (i := i) (s := .own b o1) (by simpa using e1) trivial).elim
  · cases i with
    | zero => cases e1
    | succ i => exact (fros_hold (ds := ds) (i := i) (s := .sto S) (by simpa using e1) trivial).elim
  · cases i with
    | zero => cases e1
    | succ i => exact (fros_hold (ds := ds) (i := i) (s := .sto S) (by simpa using e1) trivial).elim
  · cases i with
    | zero => cases e; exact ⟨a, rfl, ha.av av⟩
    | succ i =>
      have e' : (ds.map Slot.fro)[i]? = some s := by simpa using e
      rw [List.getElem?_map] at e'
      cases q : ds[i]? with
      | none => rw [q] at e'; cases e'
      | some d =>
        rw [q] at e'
        cases e'
        obtain ⟨v, e1, rv⟩ := r.get q
        exact ⟨v, by simp [e1], rv.av av⟩
theorem callP_ok {i : Nat} {ws : List WE} {Q' : Slot → List Slot → Prop} {Q : VK} {E : XK} (R : Rep K B ρ σ H) (hw : wCallP C i ws ρ Q') (hq : ∀ s v ρ' H', Post K B ρ' σ H H' s v → Sub ρ' ρ → Kp (Own ρ σ) H H' → Q' s ρ' → Q v H') :
    tCons (tVar i) (taOf K ws) σ H fun vs H1 => spOf K (ws.length + 1) C (vs ++ []) H1 Q E := by
  obtain ⟨⟨b0, o0, h0⟩, hw⟩ := hw
  obtain ⟨a, ea, _⟩ := R.slot i _ h0
  refine ⟨.ref a, ea, args_frz R hw fun ds vs ρ2 H2 R2 r sub kp ⟨hl, hC⟩ => ?_⟩
  cases e2 : ρ2[i]? with
  | none => rw [e2] at hC; exact hC.elim
  | some t =>
    rw [e2] at hC
    match t, e2, hC with
    | .own b o, e2, hC =>
      obtain ⟨a', ea', q0⟩ := R2.slot i _ e2
      rw [ea] at ea'; cases ea'
      have oa : Own ρ2 σ a := .inl ⟨i, b, o, e2, ea⟩
      obtain ⟨Ra, ow⟩ := rep_lent (fun x z => R2.av_trk z) R2.tabs q0 (fun x z => by rw [z]; exact .inl oa) r
      rw [List.append_nil]
      refine ⟨by simp [r.length, hl], _, _, _, Ra, by simp [r.length], hC, fun s v outs H' post so k3 h => ?_⟩
      have ka : Kp (fun x => x = a) H2 H' := k3.mono ow
      have Ro := post.rep
      match outs, so, h, post, Ro with
      | .own true o' :: outs, so, h, post, Ro =>
        obtain ⟨a1, e1, q1⟩ := Ro.slot 0 _ rfl
        cases e1
        have inc : ∀ x, Av B ρ2 σ x → Av (fun x => Av B ρ2 σ x ∧ x ≠ a) (.own true o' :: outs) (some (.ref a) :: vs.map some) x := fun x z => by
          by_cases hx : x = a
          · subst hx; exact .inl (.inl ⟨0, true, o', rfl, rfl⟩)
          · exact .inr ⟨z, hx⟩
        have up : ∀ x, Av B (ρ2.set i (.own b o')) σ x → Av B ρ2 σ x := fun x z => z.elim (fun z => .inl ((own_upd e2 x).1 z)) .inr
        match s, post, h with
        | .fro d, post, h =>
          obtain ⟨R5, s5, k5⟩ := R2.mutK (B' := B) e2 ea ka (fun x z => .inl z) (q1.av inc)
          exact hq _ _ _ _ (postF R5 (post.2.av fun x z => inc x (up x z))) (sub.trans s5) (kp.trans k5 fun x z => sub.own x z) h
        | .own c u, ⟨a2, hv, n, nb, R4, q4⟩, h =>
          subst hv
          obtain ⟨a1, e1, q1⟩ := R4.slot 0 _ rfl
          cases e1
          have inc2 : ∀ x, Av (fun x => B x ∨ x = a2) ρ2 σ x → Av (fun x => (Av B ρ2 σ x ∧ x ≠ a) ∨ x = a2) (.own true o' :: outs) (some (.ref a) :: vs.map some) x := fun x z => by
            by_cases hx : x = a
            · subst hx; exact .inl (.inl ⟨0, true, o', rfl, rfl⟩)
            · rcases z with z | z | z
              · exact .inr (.inl ⟨.inl z, hx⟩)
              · exact .inr (.inl ⟨.inr z, hx⟩)
              · exact .inr (.inr z)
          have up2 : ∀ x, Av (fun x => B x ∨ x = a2) (ρ2.set i (.own b o')) σ x → Av (fun x => B x ∨ x = a2) ρ2 σ x := fun x z => z.elim (fun z => .inl ((own_upd e2 x).1 z)) .inr
          obtain ⟨R5, s5, k5⟩ := R2.mutK (B' := fun x => B x ∨ x = a2) e2 ea ka (fun x z => z.elim .inl fun z => .inr (by rw [z]; exact ⟨n, q4.trk⟩)) (q1.av inc2)
          exact hq _ _ _ _ (postO (b := false) (kp.back n) (fun z => R2.btr a2 z n) R5 (q4.av fun x z => inc2 x (up2 x z))) (sub.trans s5) (kp.trans k5 fun x z => sub.own x z) h
def wCallN (C : WE) (w : WE) : WE := fun ρ Q => w ρ fun s ρ1 => match s with
  | .own _ o => C [.own true o] fun r outs => (match outs with
    | .own true _ :: _ => (match r with
      | .fro d => Q (.fro d) ρ1
      | .own _ u => Q (.own false u) ρ1
      | _ => False)
    | _ => False)
  | _ => False
theorem callN_ok {w : WE} {Q' : Slot → List Slot → Prop} {Q : VK} {E : XK} (R : Rep K B ρ σ H) (hw : wCallN C w ρ Q') (hq : ∀ s v ρ' H', Post K B ρ' σ H H' s v → Sub ρ' ρ → Kp (Own ρ σ) H H' → Q' s ρ' → Q v H') :
    tCons (tOf K w) tNil σ H fun vs H1 => spOf K 1 C (vs ++ []) H1 Q E := by
  refine ⟨B, ρ, _, R, hw, fun s v ρ1 H1 post sub kp hC => ?_⟩
  match s, post, hC with
  | .own b o, ⟨a, hv, n, nb, R1, q0⟩, hC =>
    subst hv
    have hA : ∀ x, x = a → Av (fun x => B x ∨ x = a) ρ1 σ x := fun x z => .inr (.inr z)
    obtain ⟨Ra, ow⟩ := rep_lent (vs := []) (ds := []) (fun x z => R1.av_trk z) R1.tabs q0 hA .nil
    refine ⟨rfl, _, _, _, Ra, by simp, hC, fun s v outs H' post so k3 h => ?_⟩
    have ka : Kp (fun x => x = a) H1 H' := k3.mono ow
    have na : ¬ Own ρ1 σ a := fun z => R1.dis a z (.inr rfl)
    -- the caller's own things are as they were
    have rep : ∀ B' : Addr → Prop, (∀ x, B' x → B x ∨ (H1 x = none ∧ H' x ≠ none)) → Rep K B' ρ1 σ H' := fun B' hb => by
      have hs : ∀ x, x = a → Av (fun x => B x ∨ x = a) ρ1 σ x := hA
      have av : ∀ x, Av B' ρ1 σ x → Av (fun x => B x ∨ x = a) ρ1 σ x ∨ H1 x = none := fun x z => z.elim (fun z => .inl (.inl z)) fun z => (hb x z).elim (fun z => .inl (.inr (.inl z))) fun z => .inr z.1
      refine ⟨R1.shp, fun j s e => ?_, fun x z => (hb x z).elim (fun z => ka.trk x (R1.btr x (.inl z))) fun z => z.2, fun x z w => (hb x w).elim (fun w => R1.dis x z (.inl w)) fun w => R1.own_trk z w.1, ka.tab R1.tabs⟩
      exact (R1.slot j s e).mono ka hs av (fun c p y e1 e2 z' => na (by rw [← z']; exact .inl ⟨j, c, p, by rw [e, e1], e2⟩)) fun T y e1 e2 z' => na (by rw [← z']; exact .inr ⟨j, T, by rw [e, e1], e2⟩)
    have k' : Kp (Own ρ σ) H H' := ⟨⟨fun x o z m t => ka.keep x o (kp.keep x o z m t) (fun e => (by rw [e] at z; rw [n] at z; cases z)) t, fun x o z m => ka.imm x o (kp.imm x o z m) m⟩, fun x z => ka.trk x (kp.trk x z), fun t => ka.tab (kp.tab t)⟩
    match outs, so, h, post with
    | .own true o' :: outs, so, h, post =>
      have inc : ∀ x, Av B ρ1 σ x → Av (fun x => Av (fun x => B x ∨ x = a) ρ1 σ x ∧ x ≠ a) (.own true o' :: outs) (some (.ref a) :: [].map some) x := fun x z => by
        by_cases hx : x = a
        · subst hx; exact .inl (.inl ⟨0, true, o', rfl, rfl⟩)
        · exact .inr ⟨z.elim .inl fun z => .inr (.inl z), hx⟩
      match s, post, h with
      | .fro d, post, h => exact hq _ _ ρ1 H' (postF (rep B fun x z => .inl z) (post.2.av inc)) sub k' h
      | .own c u, ⟨a2, hv, n2, nb2, R4, q4⟩, h =>
        subst hv
        refine hq _ _ ρ1 H' (postO (b := false) (kp.back n2) (fun z => R1.btr a2 (.inl z) n2) (rep _ fun x z => z.elim .inl fun z => .inr (by rw [z]; exact ⟨n2, q4.trk⟩)) (q4.av fun x z => ?_)) sub k' h
        by_cases hx : x = a
        · subst hx; exact .inl (.inl ⟨0, true, o', rfl, rfl⟩)
        · rcases z with z | z | z
          · exact .inr (.inl ⟨.inl z, hx⟩)
          · exact .inr (.inl ⟨.inr (.inl z), hx⟩)
          · exact .inr (.inr z)
end
section
variable {X : Cx} {CX : CXT} {k : Nat} {f : Addr} {fd : FuncData} {ps : List Str} {E : XK} {x : Str} {p pos : Pos} {e : Expr} {es : List Expr} {w : WE} {ws : List WE} {C : WE} {n i : Nat}
theorem me_callP (F : FnG X.prog X.w X.K X.mg X.base CX k f fd ps (spOf X.K n C)) (hr : Room k X.A) (hgu : X.A.guards = some []) (hg : Gl X x) (hm : X.mg x = some (.ref f)) (hk : PySem.W.keepIn X.K (.ref f) = true) (hb : Binds X.K fd ps []) (hx : Passes CX X E)
    (h0 : PE X e (tVar i)) (ha : MA X es ws) (hn : ws.length + 1 = n := by rfl) (hdb : (x == ("__debug__" : Str)) = false := by decide) (he : starEach (e :: es) X.env = (false, eval e X.env) :: starEach es X.env := by rfl) (hpl : (backTo pos (starEach es X.env)).any (·.1) = false := by rfl) :
    ME X (.Call (.Name x p) (e :: es) [] pos) (wCallP C i ws) := by
  subst hn
  exact me_of (pe_callG F hr hgu hg hm hk hb .nil hx (pa_cons h0 ha he) hdb he hpl) fun B ρ σ H Q' Q R hw hq => callP_ok R hw hq
theorem me_callN (F : FnG X.prog X.w X.K X.mg X.base CX k f fd ps (spOf X.K 1 C)) (hr : Room k X.A) (hgu : X.A.guards = some []) (hg : Gl X x) (hm : X.mg x = some (.ref f)) (hk : PySem.W.keepIn X.K (.ref f) = true) (hb : Binds X.K fd ps []) (hx : Passes CX X E)
    (h0 : ME X e w) (hdb : (x == ("__debug__" : Str)) = false := by decide) (he : starEach [e] X.env = (false, eval e X.env) :: starEach [] X.env := by rfl) (hpl : (backTo pos (starEach [] X.env)).any (·.1) = false := by rfl) :
    ME X (.Call (.Name x p) [e] [] pos) (wCallN C w) :=
  me_of (pe_callG F hr hgu hg hm hk hb .nil hx (pa_cons h0 pa_nil he) hdb he hpl) fun B ρ σ H Q' Q R hw hq => callN_ok R hw hq
end
end Dl
namespace Dl
open PySem L2
variable [TabN]
def outsOf : List Slot → List Slot → List Slot
  | [], _ => []
  | .own true _ :: as, s :: ρ => s :: outsOf as ρ
  | a :: as, _ :: ρ => a :: outsOf as ρ
  | a :: as, [] => a :: outsOf as []
def leave (ρ : List Slot) : Slot → (Slot → List Slot → Prop) → Prop
  | .fro d, k => k (.fro d) ρ
  | .own _ o, k => k (.own false o) ρ
  | .var i, k => (match ρ[i]? with
    | some (.own false o) => k (.own false o) (ρ.set i .nil)
    | some (.fro d) => k (.fro d) ρ
    | _ => False)
  | .at a, k => k (.fro (.raw (.ref a))) ρ
  | .sto _, _ => False
  | .bun _ _, _ => False
  | .nil, _ => False
def endsOf (args : List Slot) (Q : Slot → List Slot → Prop) : DEnds where
  nx := fun ρ => Q (.fro .non) (outsOf args ρ)
  rt := fun s ρ => leave ρ s fun s' ρ' => Q s' (outsOf args ρ')
  bk := fun _ => False
  ct := fun _ => False
def noOwn (args : List Slot) : Prop := ∀ (i : Nat) (o : O), args[i]? ≠ some (.own false o)
theorem outsOf_get : ∀ {as ρ : List Slot} {i : Nat} {a : Slot}, as[i]? = some a → (outsOf as ρ)[i]? = some (match a with
    | .own true o => (ρ[i]?).getD (.own true o)
    | a => a)
  | a :: as, s :: ρ, 0, x, e => by
    cases e
    cases a with
    | own b o => cases b <;> rfl
    | _ => rfl
  | a :: as, [], 0, x, e => by
    cases e
    cases a with
    | own b o => cases b <;> rfl
    | _ => rfl
  | a :: as, s :: ρ, i + 1, x, e => by
    have e' : as[i]? = some x := by simpa using e
    have ih := outsOf_get (ρ := ρ) e'
    cases a with
    | own b o => cases b <;> simpa [outsOf] using ih
    | nil => simpa [outsOf] using ih
    | fro d => simpa [outsOf] using ih
    | var j => simpa [outsOf] using ih
    | «at» j => simpa [outsOf] using ih
    | bun d S => simpa [outsOf] using ih
    | sto S => simpa [outsOf] using ih
  | a :: as, [], i + 1, x, e => by
    have e' : as[i]? = some x := by simpa using e
    have ih := outsOf_get (ρ := []) e'
    cases a with
    | own b o => cases b <;> simpa [outsOf] using ih
    | nil => simpa [outsOf] using ih
    | fro d => simpa [outsOf] using ih
    | var j => simpa [outsOf] using ih
    | «at» j => simpa [outsOf] using ih
    | bun d S => simpa [outsOf] using ih
    | sto S => simpa [outsOf] using ih
theorem outsOf_len : ∀ {as ρ : List Slot}, (outsOf as ρ).length = as.length
  | [], _ => rfl
  | a :: as, s :: ρ => by
    have ih := outsOf_len (as := as) (ρ := ρ)
    cases a with
    | own b o => cases b <;> simpa [outsOf] using ih
    | nil => simpa [outsOf] using ih
    | fro d => simpa [outsOf] using ih
    | var j => simpa [outsOf] using ih
    | «at» j => simpa [outsOf] using ih
    | bun d S => simpa [outsOf] using ih
    | sto S => simpa [outsOf] using ih
  | a :: as, [] => by
    have ih := outsOf_len (as := as) (ρ := [])
    cases a with
    | own b o => cases b <;> simpa [outsOf] using ih
    | nil => simpa [outsOf] using ih
    | fro d => simpa [outsOf] using ih
    | var j => simpa [outsOf] using ih
    | «at» j => simpa [outsOf] using ih
    | bun d S => simpa [outsOf] using ih
    | sto S => simpa [outsOf] using ih
section
variable {K : PySem.W.Frag} {B : Addr → Prop} {args ρ' : List Slot} {vs : List V} {σ' : L2.St} {H H' : Hp} {L : LT}
theorem get_app {α : Type} {l m : List α} {i : Nat} {x : α} (h : l[i]? = some x) : (l ++ m)[i]? = some x := by
  rw [List.getElem?_append_left (List.getElem?_eq_some_iff.mp h).1]; exact h
theorem app_get {α : Type} {l m : List α} {i : Nat} {x : α} (h : (l ++ m)[i]? = some x) : l[i]? = some x ∨ (l.length ≤ i ∧ m[i - l.length]? = some x) := by
  by_cases hi : i < l.length
  · rw [List.getElem?_append_left hi] at h; exact .inl h
  · rw [List.getElem?_append_right (by omega)] at h; exact .inr ⟨by omega, h⟩
theorem Rep.noSto (R : Rep K B args (vs.map some) H) (hl : args.length = vs.length) (i : Nat) (S : Addr → Option O) : args[i]? ≠ some (.sto S) := fun e => by
  have h1 := (R.slot i _ e).1
  have h2 := (List.getElem?_eq_some_iff.mp e).1
  rw [List.getElem?_eq_none_iff, List.length_map] at h1
  omega
theorem Rep.start {n : Nat} (R : Rep K B args (vs.map some) H) (hla : args.length = vs.length) : Rep K B (args ++ List.replicate n .nil) (vs.map some ++ List.replicate n none) H ∧ ∀ a, Own (args ++ List.replicate n .nil) (vs.map some ++ List.replicate n none) a ↔ Own args (vs.map some) a := by
  have hl : args.length = (vs.map some).length := by rw [List.length_map]; exact hla
  have old : ∀ {i : Nat} {s : Slot}, Hold s → (args ++ List.replicate n Slot.nil)[i]? = some s → args[i]? = some s := fun {i s} hs e => by
    rcases app_get e with e | ⟨_, e⟩
    · exact e
    · rw [List.getElem?_replicate] at e; split at e
      · cases e; exact hs.elim
      · cases e
  have σeq : ∀ i, i < args.length → (vs.map some ++ List.replicate n (none : Option V))[i]? = (vs.map some)[i]? := fun i hi => List.getElem?_append_left (by omega)
  have own : ∀ a, Own (args ++ List.replicate n .nil) (vs.map some ++ List.replicate n none) a ↔ Own args (vs.map some) a := fun a => by
    constructor
    · rintro (⟨i, b, o, e1, e2⟩ | ⟨i, S, e1, e2⟩)
      · have e := old (s := .own b o) trivial e1
        rw [σeq i (List.getElem?_eq_some_iff.mp e).1] at e2
        exact .inl ⟨i, b, o, e, e2⟩
      · exact .inr ⟨i, S, old (s := .sto S) trivial e1, e2⟩
    · rintro (⟨i, b, o, e1, e2⟩ | ⟨i, S, e1, e2⟩)
      · exact .inl ⟨i, b, o, get_app e1, get_app e2⟩
      · exact .inr ⟨i, S, get_app e1, e2⟩
  have av : ∀ a, Av B (args ++ List.replicate n .nil) (vs.map some ++ List.replicate n none) a → Av B args (vs.map some) a := fun a z => z.elim (fun z => .inl ((own a).1 z)) .inr
  refine ⟨⟨R.shp.of (by simp only [List.length_append, List.length_replicate]; omega) (fun i s e => .inl ?_) (fun i b o a e1 e2 => ?_) (fun i S e => ⟨S, old (s := .sto S) trivial e, fun _ z => z⟩), fun i s e => ?_, R.btr, fun a z => R.dis a ((own a).1 z), R.tabs⟩, own⟩
  · have := (List.getElem?_eq_some_iff.mp e).1
    simp only [List.length_append, List.length_replicate] at this ⊢; omega
  · have e := old (s := .own b o) trivial e1
    rw [σeq i (List.getElem?_eq_some_iff.mp e).1] at e2
    exact ⟨b, o, e, e2⟩
  · rcases app_get e with e | ⟨_, e⟩
    · rw [σeq i (List.getElem?_eq_some_iff.mp e).1]
      exact (R.slot i s e).av av
    · rw [List.getElem?_replicate] at e
      split at e
      · cases e; trivial
      · cases e
def ltA (args : List Slot) (σ : L2.St) : LT := ⟨fun i a => (∃ o : O, args[i]? = some (.own true o)) ∧ σ[i]? = some (some (.ref a)), fun _ _ => False, fun _ => False⟩
theorem ends_rep {B' : Addr → Prop} (R : Rep K B args (vs.map some) H) (hla : args.length = vs.length) (no : noOwn args) (R' : Rep K B' ρ' σ' H') (F : Fr H L ρ' σ' H') (hL : ∀ i a, L.l i a ↔ (∃ o : O, args[i]? = some (.own true o)) ∧ (vs.map some)[i]? = some (some (.ref a))) (hS : ∀ i a, ¬ L.s i a)
    (hb : ∀ a, B' a → B a ∨ H a = none) :
    Rep K B' (outsOf args ρ') (vs.map some) H' ∧ Sub (outsOf args ρ') args ∧ Kp (Own args (vs.map some)) H H' ∧ ∀ a, Own (outsOf args ρ') (vs.map some) a → Own ρ' σ' a := by
  have nS := R.noSto hla
  have lent : ∀ {i : Nat} {o : O}, args[i]? = some (.own true o) → ∃ o' a, (vs.map some)[i]? = some (some (V.ref a)) ∧ ρ'[i]? = some (.own true o') ∧ σ'[i]? = some (some (.ref a)) := fun {i o} e => by
    obtain ⟨a, ea, _⟩ := R.slot i _ e
    obtain ⟨⟨o', e'⟩, e2⟩ := (F.lent i a).1 ((hL i a).2 ⟨⟨o, e⟩, ea⟩)
    exact ⟨o', a, ea, e', e2⟩
  have got : ∀ {i : Nat} {s : Slot}, (outsOf args ρ')[i]? = some s → ∃ a, args[i]? = some a ∧ s = (match a with
      | .own true o => (ρ'[i]?).getD (.own true o)
      | a => a) := fun {i s} e => by
    have hi := (List.getElem?_eq_some_iff.mp e).1
    rw [outsOf_len] at hi
    have ea := List.getElem?_eq_getElem hi
    have := outsOf_get (ρ := ρ') ea
    rw [e] at this
    exact ⟨_, ea, Option.some.inj this⟩
  have gown : ∀ {i : Nat} {b : Bool} {o : O}, (outsOf args ρ')[i]? = some (.own b o) → ∃ o0 a, args[i]? = some (.own true o0) ∧ ρ'[i]? = some (.own b o) ∧ b = true ∧ (vs.map some)[i]? = some (some (V.ref a)) ∧ σ'[i]? = some (some (.ref a)) := fun {i b o} e => by
    obtain ⟨x, ex, es⟩ := got e
    cases x with
    | nil => cases es
    | fro d => cases es
    | var j => cases es
    | «at» j => cases es
    | bun d S => cases es
    | sto S => exact absurd ex (nS i S)
    | own c p =>
      cases c with
      | false => exact absurd ex (no i p)
      | true =>
        obtain ⟨o', a, h1, h2, h3⟩ := lent ex
        rw [h2] at es
        have es : Slot.own b o = .own true o' := es
        cases es
        exact ⟨p, a, ex, h2, rfl, h1, h3⟩
  have gsto : ∀ {i : Nat} {S : Addr → Option O}, (outsOf args ρ')[i]? = some (.sto S) → False := fun {i S} e => by
    obtain ⟨x, ex, es⟩ := got e
    cases x with
    | nil => cases es
    | fro d => cases es
    | var j => cases es
    | «at» j => cases es
    | bun d S => cases es
    | sto S => exact nS i S ex
    | own c p =>
      cases c with
      | false => cases es
      | true =>
        obtain ⟨o', a, h1, h2, h3⟩ := lent ex
        rw [h2] at es
        have es : Slot.sto S = .own true o' := es
        cases es
  have own : ∀ a, Own (outsOf args ρ') (vs.map some) a → Own ρ' σ' a := fun a z => by
    rcases z with ⟨i, b, o, e1, e2⟩ | ⟨i, S, e1, e2⟩
    · obtain ⟨o0, a', _, h2, _, h4, h5⟩ := gown e1
      rw [h4] at e2; cases e2
      exact .inl ⟨i, b, o, h2, h5⟩
    · exact (gsto e1).elim
  have ownA : ∀ a, Own (outsOf args ρ') (vs.map some) a → Own args (vs.map some) a := fun a z => by
    rcases z with ⟨i, b, o, e1, e2⟩ | ⟨i, S, e1, e2⟩
    · obtain ⟨o0, a', h1, _⟩ := gown e1
      exact .inl ⟨i, true, o0, h1, e2⟩
    · exact (gsto e1).elim
  have kp : Kp (Own args (vs.map some)) H H' := ⟨⟨fun a o e n t => F.keep a o e (fun i => ⟨fun z => n (by
    obtain ⟨⟨o', h1⟩, h2⟩ := (hL i a).1 z
    exact .inl ⟨i, true, o', h1, h2⟩), hS i a⟩) t, F.imm⟩, F.trk, fun _ => R'.tabs⟩
  have av' : ∀ a, Av B' (outsOf args ρ') (vs.map some) a → Av B' ρ' σ' a := fun a z => z.elim (fun z => .inl (own a z)) .inr
  refine ⟨⟨R'.shp.of ?_ (fun i s e => .inl ?_) (fun i b o a e1 e2 => ?_) (fun i S e => (gsto e).elim), fun i s e => ?_, R'.btr, fun a z => R'.dis a (own a z), R'.tabs⟩, ⟨fun i b o e => ?_, fun i o e => ?_, fun i S e => (gsto e).elim, fun i S e => absurd e (nS i S)⟩, kp, own⟩
  · rw [outsOf_len]; exact R.len
  · have := (List.getElem?_eq_some_iff.mp e).1
    rw [outsOf_len] at this
    rw [List.length_map]; omega
  · obtain ⟨_, a1, _, g2, _, g4, g5⟩ := gown e1
    rw [g4] at e2; cases e2
    exact ⟨b, o, g2, g5⟩
  · obtain ⟨x, ex, es⟩ := got e
    cases x with
    | nil => cases es; trivial
    | fro d =>
      cases es
      obtain ⟨v, e1, r⟩ := R.slot i _ ex
      exact ⟨v, e1, r.mono kp (fun a z => .inl z) fun a z => z.elim (fun z => .inl (.inl (ownA a z))) fun z => (hb a z).elim (fun z => .inl (.inr z)) .inr⟩
    | var j => exact (R.slot i _ ex).elim
    | «at» j => exact (R.slot i _ ex).elim
    | bun d S => exact (R.slot i _ ex).elim
    | sto S => exact absurd ex (nS i S)
    | own c p =>
      cases c with
      | false => exact absurd ex (no i p)
      | true =>
        obtain ⟨o', a, h1, h2, h3⟩ := lent ex
        rw [h2] at es
        have es : s = .own true o' := es
        subst es
        obtain ⟨a', e1, r⟩ := R'.slot i _ h2
        rw [h3] at e1; cases e1
        exact ⟨a, h1, r.av av'⟩
  · obtain ⟨o0, a, h1, h2, rfl, _⟩ := gown e
    exact ⟨o0, h1⟩
  · obtain ⟨o', a, h1, h2, h3⟩ := lent e
    have hi := (List.getElem?_eq_some_iff.mp e).1
    have := outsOf_get (ρ := ρ') e
    rw [h2] at this
    exact ⟨o', this⟩
theorem Rep.empty1 {i : Nat} {o : O} {a : Addr} (R' : Rep K B ρ' σ' H') (e : ρ'[i]? = some (.own false o)) (ev : σ'[i]? = some (some (.ref a))) :
    Rep K (fun x => B x ∨ x = a) (ρ'.set i .nil) σ' H' ∧ (∀ x, Av (fun x => B x ∨ x = a) (ρ'.set i .nil) σ' x → Av B ρ' σ' x) := by
  obtain ⟨a', e1, ok⟩ := R'.slot i _ e
  rw [ev] at e1; cases e1
  have oa : Own ρ' σ' a := .inl ⟨i, false, o, e, ev⟩
  have sub : Sub (ρ'.set i .nil) ρ' := ⟨fun j b o' f => by
    rcases getElem?_set_of f with ⟨_, z⟩ | ⟨_, z⟩
    · cases z
    · exact ⟨o', z⟩, fun j o' f => ⟨o', by rw [List.getElem?_set_ne (fun z => by subst z; rw [e] at f; cases f)]; exact f⟩, fun j S f => by
    rcases getElem?_set_of f with ⟨_, z⟩ | ⟨_, z⟩
    · cases z
    · exact ⟨S, z, fun _ z => z⟩, fun j S f => ⟨S, by rw [List.getElem?_set_ne (fun z => by subst z; rw [e] at f; cases f)]; exact f⟩⟩
  have ow : ∀ x, Own (ρ'.set i .nil) σ' x → Own ρ' σ' x ∧ x ≠ a := fun x w => ⟨sub.own x w, by
    rcases w with ⟨j, b, o', f1, f2⟩ | ⟨j, S, f1, f2⟩
    · rcases getElem?_set_of f1 with ⟨_, z⟩ | ⟨m, z⟩
      · cases z
      · exact fun h => m (R'.inj i j false o b o' a e z ev (by rw [f2, h]))
    · rcases getElem?_set_of f1 with ⟨_, z⟩ | ⟨m, z⟩
      · cases z
      · exact fun h => f2 (by rw [h]; exact R'.snd j i S false o a z e ev)⟩
  have av : ∀ x, Av (fun x => B x ∨ x = a) (ρ'.set i .nil) σ' x → Av B ρ' σ' x := fun x z => by
    rcases z with z | z | z
    · exact .inl (ow x z).1
    · exact .inr z
    · exact .inl (by rw [z]; exact oa)
  refine ⟨⟨R'.shp.sub (List.length_set) sub, fun j s f => ?_, fun x z => z.elim (R'.btr x) fun z => by rw [z]; exact ok.trk, fun x z h => h.elim (R'.dis x (ow x z).1) (ow x z).2, R'.tabs⟩, av⟩
  rcases getElem?_set_of f with ⟨_, z⟩ | ⟨_, z⟩
  · subst z; trivial
  · exact (R'.slot j s z).av av
theorem Fr.empty1 {i : Nat} {o : O} {H0 : Hp} (F' : Fr H0 L ρ' σ' H') (e : ρ'[i]? = some (.own false o)) : Fr H0 L (ρ'.set i .nil) σ' H' := by
  refine ⟨fun a o e n t => F'.keep a o e n t, F'.imm, F'.trk, fun j o' x f1 f2 => ?_, fun j x => ?_, fun j S x f1 f2 => ?_, fun j => ?_⟩
  · rcases getElem?_set_of f1 with ⟨_, z⟩ | ⟨_, z⟩
    · cases z
    · exact F'.ownf j o' x z f2
  · rw [F'.lent j x]
    by_cases m : i = j
    · subst m
      constructor
      · rintro ⟨⟨o', f⟩, _⟩; rw [e] at f; cases f
      · rintro ⟨⟨o', f⟩, _⟩
        rcases getElem?_set_of f with ⟨_, z⟩ | ⟨m, _⟩
        · cases z
        · exact absurd rfl m
    · rw [List.getElem?_set_ne m]
  · rcases getElem?_set_of f1 with ⟨_, z⟩ | ⟨_, z⟩
    · cases z
    · exact F'.sto j S x z f2
  · rw [F'.stl j]
    by_cases m : i = j
    · subst m
      constructor
      · rintro ⟨S, f⟩; rw [e] at f; cases f
      · rintro ⟨S, f⟩
        rcases getElem?_set_of f with ⟨_, z⟩ | ⟨m, _⟩
        · cases z
        · exact absurd rfl m
    · rw [List.getElem?_set_ne m]
theorem body_start {Q' : Slot → List Slot → Prop} {Q : VK} (n : Nat) (R : Rep K B args (vs.map some) H) (hl1 : args.length = vs.length) (no : noOwn args)
    (hq : ∀ s v ρ' H', Post K B ρ' (vs.map some) H H' s v → Sub ρ' args → Kp (Own args (vs.map some)) H H' → Q' s ρ' → Q v H') :
    Fr H (ltA args (vs.map some)) (args ++ List.replicate n .nil) (vs.map some ++ List.replicate n none) H ∧
    EndsOk K B H (ltA args (vs.map some)) (endsOf args Q') { nx := fun _ H' => Q .non H', rt := Q } := by
  have nS := R.noSto hl1
  have nS0 : ∀ (i : Nat) (S : Addr → Option O), (args ++ List.replicate n Slot.nil)[i]? ≠ some (.sto S) := fun i S e => by
    rcases app_get e with e | ⟨_, e⟩
    · exact nS i S e
    · rw [List.getElem?_replicate] at e; split at e <;> cases e
  have lentEq : ∀ (i : Nat) (a : Addr), ((∃ o : O, args[i]? = some (.own true o)) ∧ (vs.map some)[i]? = some (some (V.ref a))) ↔ ((∃ o : O, (args ++ List.replicate n Slot.nil)[i]? = some (.own true o)) ∧ (vs.map some ++ List.replicate n none)[i]? = some (some (V.ref a))) := fun i a => by
    constructor
    · rintro ⟨⟨o, e1⟩, e2⟩; exact ⟨⟨o, get_app e1⟩, get_app e2⟩
    · rintro ⟨⟨o, e1⟩, e2⟩
      rcases app_get e1 with e1 | ⟨_, e1⟩
      · have hi := (List.getElem?_eq_some_iff.mp e1).1
        rw [List.getElem?_append_left (by rw [List.length_map, ← hl1]; exact hi)] at e2
        exact ⟨⟨o, e1⟩, e2⟩
      · rw [List.getElem?_replicate] at e1; split at e1 <;> cases e1
  refine ⟨⟨fun a o e _ _ => e, fun a o e _ => e, fun a e => e, fun i o a e1 e2 => ?_, lentEq, fun i S a e1 _ => absurd e1 (nS0 i S), fun i => ⟨fun z => z.elim, fun ⟨S, e⟩ => nS0 i S e⟩⟩, ?_⟩
  · rcases app_get e1 with e1 | ⟨_, e1⟩
    · exact absurd e1 (no i o)
    · rw [List.getElem?_replicate] at e1; split at e1 <;> cases e1
  · have done : ∀ {B' : Addr → Prop} {ρ' : List Slot} {σ' : L2.St} {H' : Hp} {s' : Dl.Slot} {v : V}, Rep K B' ρ' σ' H' → Fr H (ltA args (vs.map some)) ρ' σ' H' →
        (∀ a, B a → B' a) → (∀ a, B' a → B a ∨ H a = none) → (match s' with
          | .fro d => RepV K (Av B' ρ' σ') H' v d
          | .own _ o => ∃ a, v = .ref a ∧ H a = none ∧ B' a ∧ OOk K (Av B' ρ' σ') H' a o
          | _ => False) → Q' s' (outsOf args ρ') → Q v H' := fun {B' ρ' σ' H' s' v} R' F' b1 b2 res q => by
      obtain ⟨Ro, so, ko, oo⟩ := ends_rep R hl1 no R' F' (fun i a => Iff.rfl) (fun i a z => z) b2
      have av : ∀ x, Av B' (outsOf args ρ') (vs.map some) x → Av B' ρ' σ' x := fun x z => z.elim (fun z => .inl (oo x z)) .inr
      match s', res, q with
      | .fro d, res, q => exact hq _ v _ H' (postF (Ro.fewer b1) (res.av fun x z => av x (z.elim .inl fun z => .inr (b1 x z)))) so ko q
      | .own b o, ⟨a, hv, n, hB', ok⟩, q =>
        subst hv
        have nb : ¬ B a := fun z => R.btr a z n
        have inc : ∀ x, B x ∨ x = a → B' x := fun x z => z.elim (b1 x) fun z => by rw [z]; exact hB'
        exact hq _ _ _ H' (postO n nb (Ro.fewer inc) (ok.av fun x z => av x (z.elim .inl fun z => .inr (inc x z)))) so ko q
    refine ⟨fun ρ' σ' H' R' F' q => done (s' := .fro .non) R' F' (fun _ z => z) (fun _ z => .inl z) .non q, fun _ _ _ _ _ q => q.elim, fun _ _ _ _ _ q => q.elim, fun s' v ρ' σ' H1 H' post F' ht q => ?_⟩
    have back : ∀ a, H1 a = none → H a = none := fun a z => by
      cases e : H a with
      | none => rfl
      | some o => exact absurd z (ht a (by rw [e]; exact nofun))
    match s', post, q with
    | .fro d, post, q => exact done (s' := .fro d) post.1 F' (fun _ z => z) (fun _ z => .inl z) post.2 q
    | .at a, ⟨R', hv⟩, q => subst hv; exact done (s' := .fro (.raw (.ref a))) R' F' (fun _ z => z) (fun _ z => .inl z) (.raw _) q
    | .own b o, ⟨a, hv, n, nb, R', ok⟩, q => exact done (s' := .own false o) R' F' (fun _ z => .inl z) (fun x z => z.elim .inl fun z => .inr (by rw [z]; exact back a n)) ⟨a, hv, back a n, .inr rfl, ok⟩ q
    | .var i, post, q =>
      obtain ⟨R', ev⟩ := post
      have q : (match ρ'[i]? with
        | some (.own false o) => Q' (.own false o) (outsOf args (ρ'.set i .nil))
        | some (.fro d) => Q' (.fro d) (outsOf args ρ')
        | _ => False) := q
      cases e : ρ'[i]? with
      | none => rw [e] at q; exact q.elim
      | some t =>
        rw [e] at q
        match t, e, q with
        | .fro d, e, q =>
          obtain ⟨v', e1, r⟩ := R'.slot i _ e
          rw [ev] at e1; cases e1
          exact done (s' := .fro d) R' F' (fun _ z => z) (fun _ z => .inl z) r q
        | .own false o, e, q =>
          obtain ⟨a, e1, ok⟩ := R'.slot i _ e
          rw [ev] at e1; cases e1
          obtain ⟨R2, av⟩ := R'.empty1 e ev
          have na := F'.ownf i o a e ev
          exact done (s' := .own false o) R2 (F'.empty1 e) (fun _ z => .inl z) (fun x z => z.elim .inl fun z => .inr (by rw [z]; exact na)) ⟨a, rfl, na, .inr rfl, ok.av av⟩ q
end
end Dl
namespace Dl
open PySem PySem.Spec PyProof.Rows L2
variable [TabN]
section
variable {P : Program} {w : World} {K : PySem.W.Frag} {mg : Str → Option Value} {base : Heap} {CX : CXT}
abbrev bodyCx (CX : CXT) (P : Program) (w : World) (K : PySem.W.Frag) (mg : Str → Option Value) (base : Heap) (N : List Str) (qual : Str) (st : Stmt) (f : Addr) (cdv : Value) (A : Around) (outer : List Env) (s : Shared) (H : Hp) (E : XK) : Cx :=
  cxOf CX P w K mg base N qual (defScope st) f cdv A outer s H E
theorem fnG_of {k : Nat} {f : Addr} {name qual : Str} {st : Stmt} {kV doc pm cdv ct oc : Value} {an od : Option Addr} {osl : Array (Option Value)} {N ps : List Str} {sp : Sp}
    (lk : K.lookup f = some ⟨oc, od, .func (PySem.W.fnOf name qual (defArgs st) (defBody st) (defScope st) .none kV doc pm an cdv ct), osl⟩) (hcd : PySem.W.codeIn K cdv qual = true) (S : FnScope N ps (defScope st))
    (len : ∀ vs H Q E, sp vs H Q E → vs.length = ps.length)
    (hbody : ∀ (A : Around) (outer : List Env) (s : Shared) (H : Hp) (vs : List V) (Q : VK) (E : XK), Room k (A.deeper (envOfC qual (defScope st) s.heap.objs.size f cdv)) → A.guards = some [] → sp vs H Q E →
      ∃ t, PSs (bodyCx CX P w K mg base N qual st f cdv A outer s H E) (defBody st) t ∧ t { nx := fun _ H' => Q .non H', rt := Q } (L2.start N vs) H) :
    FnG P w K mg base CX (k + 1) f (PySem.W.fnOf name qual (defArgs st) (defBody st) (defScope st) .none kV doc pm an cdv ct) ps sp := by
  refine ⟨len, fun A outer s H args us vs Q E hr hgu e0 hb r hsp => ?_⟩
  have inb : ∀ b o, base.get? b = some o → s.heap.get? b = some o := fun b o e => (e0.bs b o e).1
  have KX := e0.mod.kin.keeps inb
  have lim := e0.mod.nolimit.keeps inb
  have hkind : ∀ y ∈ ps.zip us, (defScope st).names.lookup y.1 = some .local ∨ ((defScope st).names.lookup y.1 = some .cell ∧ ((cellsFrom (s.heap.objs.size + 1) (defScope st).names []).lookup y.1).isSome = true) := fun y hy => by
    obtain ⟨n, v⟩ := y
    have q := S.par n (List.of_mem_zip hy).1
    exact q.elim .inl fun q => .inr ⟨q, PySem.W.cellsFrom_some _ _ _ (.inl q)⟩
  refine codeAny_call_function hr.depth (KX _ _ lk) rfl S.co S.gen rfl (PySem.W.codeRec_of KX hcd) (hb _ _ _ _ ?_)
  refine wpAny_newFunctionEnv_cells S.kind hkind fun env he s1 x => ?_
  subst he
  refine ⟨lim.keeps x.toInCall.keep, codeAny_func ?_⟩
  obtain ⟨t, ht, hq⟩ := hbody A outer s H vs Q E (hr.deeper _) hgu hsp
  have I := inv_start (CX := CX) (P := P) (w := w) (E := E) S hr.hd e0 (len _ _ _ _ hsp) r x
  have fin : ∀ {σ' : L2.St} {H' : Hp} {v : V} {u : Value} {s' : Shared}, Inv (bodyCx CX P w K mg base N qual st f cdv A outer s H E) [] σ' H' s' → RelV v u → Q v H' → CE outer P w H s Q u s' :=
    fun J rv q => ⟨_, _, J.os, J.bare, J.base, J.hok, rv, q⟩
  refine wpAny_mono (ht.run [] s1 (L2.start N vs) H _ I hq) (fun fl s' hs => ?_) fun e s' hs => hs
  match fl, hs with
  | .ret u, ⟨v, σ', H', J, rv, q⟩ => exact fin J rv q
  | .next, ⟨σ', H', J, q⟩ => exact fin (v := V.non) (u := Value.none) J rfl q
  | .brk, ⟨_, _, _, q⟩ => exact q.elim
  | .cont, ⟨_, _, _, q⟩ => exact q.elim
theorem def_ok {x qual : Str} {st : Stmt} {f : Addr} {fd : FuncData} {N ps : List Str} {k : Nat} {C : WE} {wb : WS} (F : Fun K x qual st f fd) (S : FnScope N ps (defScope st))
    (hb : ∀ (cdv : Value) (A : Around) (outer : List Env) (s : Shared) (H : Hp) (E : XK), Room k (A.deeper (envOfC qual (defScope st) s.heap.objs.size f cdv)) → (A.deeper (envOfC qual (defScope st) s.heap.objs.size f cdv)).guards = some [] →
      MSs (bodyCx CX0 P w K mg base N qual st f cdv A outer s H E).nox (defBody st) wb)
    (hC : ∀ args Q, args.length = ps.length → C args Q → noOwn args ∧ wb (endsOf args Q) (args ++ List.replicate (N.length - ps.length) .nil)) :
    FnG P w K mg base CX0 (k + 1) f fd ps (spOf K ps.length C) := by
  obtain ⟨oc, od, kV, doc, pm, an, cdv, ct, osl, rfl, lk, hcd⟩ := F.ex
  refine fnG_of lk hcd S (fun vs H Q E h => h.1) fun A outer s H vs Q E hr hgu hsp => ?_
  have hB := hb cdv A outer s H E hr hgu
  refine ⟨_, PSs.nox hB, ?_⟩
  obtain ⟨hl, B, args, Q', R, hl1, hc, hq⟩ := hsp
  have hla : args.length = ps.length := hl1.trans hl
  obtain ⟨no, hw⟩ := hC args Q' hla hc
  have hst : L2.start N vs = vs.map some ++ List.replicate (N.length - ps.length) none := by unfold L2.start; rw [hl]
  obtain ⟨R0, ow⟩ := R.start (n := N.length - ps.length) hl1
  rw [hst]
  obtain ⟨F0, EO⟩ := body_start (N.length - ps.length) R hl1 no hq
  exact ⟨B, H, _, _, endsOf args Q', R0, F0, hw, EO⟩
end
end Dl
namespace Dl
open PySem PySem.Spec PyProof.Rows L2
section
variable {P : Program} {w : World} {K : PySem.W.Frag} {mg mb : Str → Option Value} {CX : CXT} {k : Nat} {fa a : Addr} {fd : FuncData} {x : Str} {C : WE} {t0 : Shared} {us : List Value} {ns : List Int}
end
end Dl
namespace Dl
namespace Hd
open PySem PySem.Spec PyProof.Rows L2 He
abbrev Fg := PySem.W.Frag
structure FnE where
  adr : Fg → Addr
  name : Str
  qual : Str
  st : Stmt
def fnO (K : Fg) (f : Addr) : FnV := match K.lookup f with
  | some ⟨_, _, .func fd, _⟩ => some (fd.name, fd.qualname, fd.params, fd.body, fd.scope, fd.globals, fd.closure, fd.defaults, fd.builtins)
  | _ => none
def FnE.val (d : FnE) : FnV := some (d.name, d.qual, defArgs d.st, .stmts (defBody d.st), defScope d.st, mainGlobals, [], .none, builtinsNs)
def FnE.ok (K : Fg) (d : FnE) : Bool := PySem.W.keepIn K (.ref (d.adr K)) && (match K.lookup (d.adr K) with
  | some ⟨_, _, .func fd, _⟩ => PySem.W.codeIn K fd.code d.qual
  | _ => false)
theorem fnE_mk {K : Fg} {d : FnE} (e : fnO K (d.adr K) = d.val) (c : d.ok K = true) :
    ∃ oc od osl kV doc pm an cdv ct, K.lookup (d.adr K) = some ⟨oc, od, .func (PySem.W.fnOf d.name d.qual (defArgs d.st) (defBody d.st) (defScope d.st) .none kV doc pm an cdv ct), osl⟩ ∧ PySem.W.codeIn K cdv d.qual = true ∧ PySem.W.keepIn K (.ref (d.adr K)) = true := by
  obtain ⟨k1, c2⟩ := ba c
  unfold fnO at e
  cases q : K.lookup (d.adr K) with
  | none =>
    rw [q] at c2
    cases c2
  | some o =>
    obtain ⟨oc, od, dt, osl⟩ := o
    rw [q] at c2 e
    cases dt with
    | func fd =>
      obtain ⟨n1, n2, n3, n4, n5, n6, n7, n8, n9, n10, n11, n12, n13, n14, n15⟩ := fd
      have e2 : (some (n1, n2, n3, n4, n5, n6, n7, n8, n15) : FnV) = some (d.name, d.qual, defArgs d.st, .stmts (defBody d.st), defScope d.st, mainGlobals, [], .none, builtinsNs) := e
      simp only [Option.some.injEq, Prod.mk.injEq] at e2
      obtain ⟨h1, h2, h3, h4, h5, h6, h7, h8, h9⟩ := e2
      subst h1 h2 h3 h4 h5 h6 h7 h8 h9
      exact ⟨oc, od, osl, n9, n10, n11, n12, n13, n14, rfl, c2, k1⟩
    | _ => cases c2
def seen (fs : List (Fg → Bool)) (fn : List FnE) (K : Fg) : Bool × List FnV := ((fs.all fun f => f K) && fn.all fun d => d.ok K, fn.map fun d => fnO K (d.adr K))
def due (fn : List FnE) : Bool × List FnV := (true, fn.map FnE.val)
def ob (as : List Addr) (fs : List (Fg → Bool)) (fn : List FnE) (s : PySem.W.SharedT) : Bool × List FnV := seen fs fn (frG (HandSHeadRun.getT s) as)
section
variable {fs : List (Fg → Bool)} {fn : List FnE} {K : Fg}
theorem fact (c : seen fs fn K = due fn) (i : Nat) {f : Fg → Bool} (h : fs[i]? = some f := by rfl) : f K = true := by
  have c1 := (ba (show ((fs.all fun f => f K) && fn.all fun d => d.ok K) = true from congrArg (fun z : Bool × List FnV => z.1) c)).1
  exact List.all_eq_true.mp c1 f (List.mem_of_getElem? h)
theorem fdef (c : seen fs fn K = due fn) (i : Nat) {d : FnE} (h : fn[i]? = some d := by rfl) :
    ∃ oc od osl kV doc pm an cdv ct, K.lookup (d.adr K) = some ⟨oc, od, .func (PySem.W.fnOf d.name d.qual (defArgs d.st) (defBody d.st) (defScope d.st) .none kV doc pm an cdv ct), osl⟩ ∧ PySem.W.codeIn K cdv d.qual = true ∧ PySem.W.keepIn K (.ref (d.adr K)) = true := by
  have c2 := (ba (show ((fs.all fun f => f K) && fn.all fun d => d.ok K) = true from congrArg (fun z : Bool × List FnV => z.1) c)).2
  have e : fn.map (fun d => fnO K (d.adr K)) = fn.map FnE.val := congrArg (fun z : Bool × List FnV => z.2) c
  have e2 : (fn.map fun d => fnO K (d.adr K))[i]? = (fn.map FnE.val)[i]? := by rw [e]
  rw [List.getElem?_map, List.getElem?_map, h] at e2
  exact fnE_mk (Option.some.inj e2) (List.all_eq_true.mp c2 d (List.mem_of_getElem? h))
end
def glo (x : Str) (K : Fg) : Bool := eqO (PySem.W.nsIn K mainGlobals x) (some (some (.ref (ga K x))))
def fre (x : Str) (K : Fg) : Bool := eqO (PySem.W.nsIn K mainGlobals x) (some none)
inductive Pt where
  | non | bl (b : Bool) | int (i : Int) | str (x : Str) | tup (ps : List Pt)
mutual
def ptB (K : Fg) : Pt → Value → Bool
  | .non, .none => true
  | .bl b, .bool c => b == c
  | .int i, .int j _ => decide (j = i)
  | .str x, .str y _ => decide (y = x)
  | .tup ps, .ref a => (match K.lookup a with
    | some ⟨.type c, _, .seq its _, _⟩ => decide (c = "tuple") && ptsB K ps its.toList
    | _ => false)
  | _, _ => false
def ptsB (K : Fg) : List Pt → List Value → Bool
  | [], [] => true
  | p :: ps, v :: vs => ptB K p v && ptsB K ps vs
  | _, _ => false
end
theorem pts_nil {K : Fg} {vs : List Value} (h : ptsB K [] vs = true) : vs = [] := by
  cases vs with
  | nil => rfl
  | cons v r => simp [ptsB] at h
end Hd
open PySem PySem.Spec PyProof.Rows L2
end Dl
set_option maxHeartbeats 2000000
namespace PySem
namespace SupX
open PySem.W PySem.Calls PyProof.Rows PySem.HandSPX
abbrev veAll : List Value := [.type "ValueError", .type "Exception", .type "BaseException", .type "object"]
def iS (a : Str) : List (Str × NameKind) := [(("self" : Str), .local), (a, .local), (("__class__" : Str), .free), (("super" : Str), .globalImplicit)]
structure SupBody (a : Str) (args : Arguments) (body : List Stmt) (scope : Scope) : Prop where
  av : a ≠ "self" ∧ a ≠ "super" ∧ a ≠ "__class__" ∧ (a == ("__debug__" : Str)) = false
  nms : scope.names = iS a
  kd : scope.kind = .function ∧ scope.isCoroutine = false ∧ scope.isGenerator = false
  par : ∃ ar, (args.posonlyargs ++ args.args).head? = some ar ∧ ar.arg = "self"
  bind : ∀ (qual : Str) (cc cda x : Addr) (doc pm ct v : Value) (an : Option Addr), bindArgs (fnX "__init__" qual args body scope [("__class__", cc)] .none .none doc pm an (.ref cda) ct) ⟨[.ref x, v], []⟩ = pure [(("self" : Str), Value.ref x), (a, v)]
  txt : ∃ q1 q2 q3 q4 q5 q6 q7 q8 q9 q10 : Pos, body = [.Expr (.Call (.Attribute (.Call (.Name "super" q1) [] [] q2) "__init__" q3) [.Name a q4] [] q5) q6, .Assign [.Attribute (.Name "self" q7) a q8] (.Name a q9) q10] ∧
    (∀ env : Env, ∃ pl, eval (.Call (.Attribute (.Call (.Name "super" q1) [] [] q2) "__init__" q3) [.Name a q4] [] q5) env = (do
      let ov ← attributeBase (.Call (.Name "super" q1) [] [] q2) "__init__" env (eval (.Call (.Name "super" q1) [] [] q2) env)
      standAt q3.atName
      let (f, first) ← holding [ov] (getMethod ov "__init__" pl)
      callWith q5 f first (backTo q5 (starEach [.Name a q4] env)) [])) ∧
    (∀ env : Env, swapsWith (.Call (.Attribute (.Call (.Name "super" q1) [] [] q2) "__init__" q3) [.Name a q4] [] q5) none q6.line env = pure false) ∧
    (∀ env : Env, swapsWith (.Name a q9) (some (.Attribute (.Name "self" q7) a q8)) q10.line env = pure false) ∧
    (∀ env : Env, starEach [.Name a q4] env = [(false, eval (.Name a q4) env)])
structure SupTxt (P : Program) (K : Frag) (qual a : Str) (args : Arguments) (body : List Stmt) (scope : Scope) (C fI : Addr) : Prop where
  cls : ∃ nm q N bs bm sn sub ab col dd k0 k1 k2 k3 k5, K.lookup C = some (excClassObj nm q C N bs bm true sn sub ab col dd k0 k1 k2 k3 k5 "ValueError.__new__") ∧ refsVE bm = true
  xi : excInitIn K C veAll "ValueError.__new__" = true
  sa : findIn K (.ref C) "__setattr__" = some (some (.builtin "object.__setattr__"))
  ga : findIn K (.ref C) "__getattribute__" = some (some (.builtin "BaseException.__getattribute__"))
  gg : findIn K (.ref C) "__getattr__" = some none
  noN : findIn K (.ref C) a = some none
  iC : findIn K (.ref C) "__init__" = some (some (.ref fI))
  tC : typeIn K (.ref fI) = some (.type "function")
  kC : keepIn K (.ref C) = true
  exC : subIn K (.ref C) (.type "BaseException") = some true
  tyC : typeIn K (.ref C) = some (.type "type")
  hdC : hasDictIn K C = true
  su : ks_superIn K C C "__init__" = some (some (.builtin "ValueError.__init__"))
  sB : subIn K (.ref C) (.type "ValueError") = some true
  ss : mroIn K C (.ref C) = some true
  st : nsIn K cStatics "thirdparty.any" = some none
  sp : nsIn K mainGlobals "super" = some none
  fn : ∃ (oc : Value) (od : Option Addr) (doc pm : Value) (an : Option Addr) (cda cc : Addr) (ct : Value) (osl : Array (Option Value)),
    K.lookup fI = some ⟨oc, od, .func (fnX "__init__" qual args body scope [("__class__", cc)] .none .none doc pm an (.ref cda) ct), osl⟩ ∧ codeIn K (.ref cda) qual = true ∧
    (∃ (ccl : Value) (cdd : Option Addr) (ccs : Array (Option Value)) (vs : Array Value) (file : Str) (tf : Tok), K.lookup cda = some ⟨ccl, cdd, .fields vs, ccs⟩ ∧ vs[2]? = some (.str file tf) ∧ ((P.main.file : Str) == file) = true) ∧
    (∃ (cl : Value) (cld : Option Addr) (csl : Array (Option Value)), K.lookup cc = some ⟨cl, cld, .cell (some (.ref C)), csl⟩)
  top : (P.main.scope.names.lookup ("super" : Str)).isSome = false
structure InitEnd (h h' : Heap) (a : Str) (x C dx t1 : Addr) (v : Value) : Prop where
  keep : ∀ b o, b ≠ x → h.get? b = some o → h'.get? b = some o
  obj : h'.get? x = some { cls := .ref C, dict := some dx, data := .fields #[.ref t1, .none, .none, .none, .bool false, .none] }
  dbig : h.objs.size ≤ dx
  dne : dx ≠ x
  ns : h'.Ns1 dx (fun y => if y = a then some v else none)
section
variable {prog : Program} {w : World} {A : Around} {E : Value → Shared → Prop} {R : Result → Shared → Prop} {s : Shared} {K : Frag} {mg mb : Str → Option Value} {qual a : Str} {args : Arguments} {body : List Stmt} {scope : Scope} {C fI : Addr}
structure OwnMade (h h' : Heap) (a : Str) (e C d : Addr) (v : Value) : Prop where
  keep : ∀ b o, h.get? b = some o → h'.get? b = some o
  new : h.objs.size ≤ e
  obj : ∃ oe vs, h'.get? e = some oe ∧ oe.cls = .ref C ∧ oe.dict = some d ∧ oe.data = .fields vs ∧ vs[1]? = some .none
  dbig : h.objs.size ≤ d
  dne : d ≠ e
  ns : h'.Ns1 d (fun y => if y = a then some v else none)
end
end SupX
end PySem
namespace Dl
open PySem L2
variable [TabN]
mutual
def pyD : D → PyData
  | .non => .none
  | .bl b => .bool b
  | .int i => .int i
  | .str x => .str x
  | .tup ds => .tuple (pyL ds)
  | .lst ds => .list (pyL ds)
  | .dct kvs => .dict (pyK kvs)
  | .raw _ => .none
  | .arg ns => .list (ns.map .int)
  | .tix _ => .none
  | .obj _ _ => .none
  | .exc _ _ _ => .none
  | .fn _ _ _ _ _ => .none
def pyL : List D → List PyData
  | [] => []
  | d :: ds => pyD d :: pyL ds
def pyK : List (Key × D) → List (PyData × PyData)
  | [] => []
  | (k, d) :: r => ((match k with
    | .inl i => .int i
    | .inr x => .str x), pyD d) :: pyK r
end
mutual
/-- none, bools, ints, texts, lists, tuples of such -/
def plainD : D → Bool
  | .tup ds => plainL ds
  | .lst ds => plainL ds
  | .dct _ => false
  | .raw _ => false
  | .arg _ => false
  | .tix _ => false
  | .obj _ _ => false
  | .exc _ _ _ => false
  | .fn _ _ _ _ _ => false
  | _ => true
def plainL : List D → Bool
  | [] => true
  | d :: ds => plainD d && plainL ds
end
section
variable {K : PySem.W.Frag} {A : Addr → Prop} {H : Hp}
mutual
theorem RepV.dp : ∀ {d : D} {v : V}, plainD d = true → RepV K A H v d → Dp K H v (pyD d)
  | .non, _, _, .non => .non
  | .bl b, _, _, .bl _ => .bl b
  | .int i, _, _, .int _ => .int i
  | .str x, _, _, .str _ => .str x
  | .tup ds, _, h, .tup hs r => .tup hs (RepL.dp (by simpa [plainD] using h) r)
  | .lst ds, _, h, .lst hs _ r => .lst (SqL.of hs) (RepL.dp (by simpa [plainD] using h) r)
theorem RepL.dp : ∀ {ds : List D} {vs : List V}, plainL ds = true → RepL K A H vs ds → DpAll K H vs (pyL ds)
  | [], _, _, .nil => .nil
  | d :: ds, _, h, .cons r1 r2 => by
    have h' : plainD d = true ∧ plainL ds = true := by simpa [plainL] using h
    exact .cons (RepV.dp h'.1 r1) (RepL.dp h'.2 r2)
end
theorem Sees.dp {d : D} {v : V} (h : plainD d = true) (s : Sees K A H v d) : Dp K H v (pyD d) := by
  match d, h, s with
  | .lst ds, h, ⟨a, xs, hv, e, r⟩ => subst hv; exact .lst (SqL.of e) (RepL.dp (by simpa [plainD] using h) r)
  | .tup ds, h, s => exact RepV.dp h (show RepV K A H v (.tup ds) from s)
  | .non, h, s => exact RepV.dp h (show RepV K A H v .non from s)
  | .bl b, h, s => exact RepV.dp h (show RepV K A H v (.bl b) from s)
  | .int i, h, s => exact RepV.dp h (show RepV K A H v (.int i) from s)
  | .str x, h, s => exact RepV.dp h (show RepV K A H v (.str x) from s)
theorem sees_str {v : V} {x : Str} (h : Sees K A H v (.str x)) : v = .str x := by
  have h' : RepV K A H v (.str x) := h
  cases h'; rfl
theorem sees_bl {v : V} {x : Bool} (h : Sees K A H v (.bl x)) : v = .bl x := by
  have h' : RepV K A H v (.bl x) := h
  cases h'; rfl
theorem sees_non {v : V} (h : Sees K A H v .non) : v = .non := by
  have h' : RepV K A H v .non := h
  cases h'; rfl
theorem sees_tup {v : V} {ds : List D} (h : Sees K A H v (.tup ds)) : ∃ a xs, v = .ref a ∧ SqT K H a xs ∧ RepL K A H xs ds := by
  have h' : RepV K A H v (.tup ds) := h
  cases h' with
  | tup h1 h2 => exact ⟨_, _, rfl, h1, h2⟩
theorem sees_arg {v : V} {ns : List Int} (h : Sees K A H v (.arg ns)) : ∃ a, v = .ref a ∧ ArgAt K H a ns := by
  have h' : RepV K A H v (.arg ns) := h
  cases h' with
  | arg h => exact ⟨_, rfl, h⟩
end
theorem newF {K : PySem.W.Frag} {A : Addr → Prop} {H H' : Hp} {v : V} {d : D} (r : RepV K A H' v d) : New K A H H' (.fro d) v := r
section
variable {X : Cx}
theorem opD_of {f : Value → Value → Sem Value} {g : D → D → (Slot → Prop) → Prop}
    (h : ∀ (pins : List (Addr × Obj)) (s : Shared) (σ : L2.St) (H : Hp) (x y : V) (v u : Value) (Q : VK) (A : Addr → Prop) (d e : D) (k : Slot → Prop), Inv X pins σ H s → RelV x v → RelV y u → Sees X.K A H x d → Sees X.K A H y e → (∀ a, A a → H a ≠ none) → g d e k →
      (∀ s v H', Ex H H' → New X.K A H H' s v → k s → Q v H') → wpAny (model X.prog X.w) X.A (f v u) (EP X pins σ Q) X.xe s) : OpD X f g :=
  fun pins s σ H x y v u Q I rx ry ⟨A, d, e, k, sd, se, ht, hg, hq⟩ => h pins s σ H x y v u Q A d e k I rx ry sd se ht hg hq
def gI (f : Int → Int → D) : D → D → (Slot → Prop) → Prop
  | .int a, .int b, k => k (.fro (f a b))
  | _, _, _ => False
def gIC (C : Int → Int → Prop) (f : Int → Int → D) : D → D → (Slot → Prop) → Prop
  | .int a, .int b, k => C a b ∧ k (.fro (f a b))
  | _, _, _ => False
theorem opD_I {f : Value → Value → Sem Value} {g : Int → Int → D} {gv : Int → Int → V} (ho : OpR X f (rI0 gv)) (hr : ∀ A H i j, RepV X.K A H (gv i j) (g i j)) : OpD X f (gI g) := opD_of fun pins s σ H x y v u Q A d e k I rx ry sd se ht hg hq => by
  match d, e, hg, sd, se with
  | .int a, .int b, hg, sd, se => exact ho pins s σ H x y v u Q I rx ry ⟨a, b, sees_int sd, sees_int se, hq _ _ H (Ex.refl H) (newF (hr A H a b)) hg⟩
theorem opD_IC {f : Value → Value → Sem Value} {C : Int → Int → Prop} {g : Int → Int → D} {gv : Int → Int → V} (ho : OpR X f (rI C gv)) (hr : ∀ A H i j, RepV X.K A H (gv i j) (g i j)) : OpD X f (gIC C g) := opD_of fun pins s σ H x y v u Q A d e k I rx ry sd se ht hg hq => by
  match d, e, hg, sd, se with
  | .int a, .int b, hg, sd, se => exact ho pins s σ H x y v u Q I rx ry ⟨a, b, sees_int sd, sees_int se, hg.1, hq _ _ H (Ex.refl H) (newF (hr A H a b)) hg.2⟩
def gSub : D → D → (Slot → Prop) → Prop := gI fun a b => .int (a - b)
theorem od_sub : OpD X (binaryOp .Sub) gSub := opD_I op_sub fun _ _ _ _ => .int _
def gFdiv : D → D → (Slot → Prop) → Prop := gIC CDivW fun a b => .int (a / b)
theorem od_fdiv : OpD X (binaryOp .FloorDiv) gFdiv := opD_IC op_fdivW fun _ _ _ _ => .int _
def gMod : D → D → (Slot → Prop) → Prop := gIC (fun _ b => 0 < b) fun a b => .int (a % b)
theorem od_mod : OpD X (binaryOp .Mod) gMod := opD_IC op_mod fun _ _ _ _ => .int _
def CPowB (i j : Int) : Prop := CPow i j ∨ (0 ≤ j ∧ (Builtin.Int.intBits i : Int) * j ≤ 2 ^ 27)
theorem op_powB : OpR X (binaryOp .Pow) (rI CPowB fun i j => .int (i ^ j.toNat)) := opI fun _ _ _ _ _ _ _ hc q => hc.elim (fun hc => PyProof.Rows.pow_int_small hc.1 hc.2.1 hc.2.2 q) fun hc => PyProof.Rows.pow_int hc.1 hc.2 q
def gPow : D → D → (Slot → Prop) → Prop := gIC CPowB fun a b => .int (a ^ b.toNat)
theorem od_pow : OpD X (binaryOp .Pow) gPow := opD_IC op_powB fun _ _ _ _ => .int _
def gLt : D → D → (Slot → Prop) → Prop := gI fun a b => .bl (decide (a < b))
theorem od_lt : OpD X (compareOp .Lt) gLt := opD_I op_lt fun _ _ _ _ => .bl _
def gLe : D → D → (Slot → Prop) → Prop := gI fun a b => .bl (decide (a ≤ b))
theorem od_le : OpD X (compareOp .LtE) gLe := opD_I op_le fun _ _ _ _ => .bl _
def gGt : D → D → (Slot → Prop) → Prop := gI fun a b => .bl (decide (b < a))
theorem od_gt : OpD X (compareOp .Gt) gGt := opD_I op_gt fun _ _ _ _ => .bl _
def gGe : D → D → (Slot → Prop) → Prop := gI fun a b => .bl (decide (b ≤ a))
theorem od_ge : OpD X (compareOp .GtE) gGe := opD_I op_ge fun _ _ _ _ => .bl _
def shD (d : D) : Prop := plainD d = true ∧ SeqAt.shaped (pyD d) = true
def gEq : D → D → (Slot → Prop) → Prop
  | .str x, .str y, k => k (.fro (.bl (decide (x = y))))
  | a, b, k => shD a ∧ shD b ∧ k (.fro (.bl (PyData.eqv (pyD a) (pyD b))))
def gNe : D → D → (Slot → Prop) → Prop
  | .str x, .str y, k => k (.fro (.bl (!decide (x = y))))
  | a, b, k => shD a ∧ shD b ∧ k (.fro (.bl (!PyData.eqv (pyD a) (pyD b))))
theorem gEq_sh {a b : D} {k : Slot → Prop} (h1 : shD a) (h2 : shD b) : gEq a b k = k (.fro (.bl (PyData.eqv (pyD a) (pyD b)))) := by
  unfold gEq
  split
  · rename_i k' x y
    have e : PyData.eqv (pyD (.str x)) (pyD (.str y)) = decide (x = y) := Bool.beq_eq_decide_eq x y
    rw [e]
  · exact propext ⟨fun h => h.2.2, fun h => ⟨h1, h2, h⟩⟩
theorem gNe_sh {a b : D} {k : Slot → Prop} (h1 : shD a) (h2 : shD b) : gNe a b k = k (.fro (.bl (!PyData.eqv (pyD a) (pyD b)))) := by
  unfold gNe
  split
  · rename_i k' x y
    have e : PyData.eqv (pyD (.str x)) (pyD (.str y)) = decide (x = y) := Bool.beq_eq_decide_eq x y
    rw [e]
  · exact propext ⟨fun h => h.2.2, fun h => ⟨h1, h2, h⟩⟩
theorem gEq_str {x y : Str} {k : Slot → Prop} : gEq (.str x) (.str y) k = k (.fro (.bl (decide (x = y)))) := rfl
theorem gNe_str {x y : Str} {k : Slot → Prop} : gNe (.str x) (.str y) k = k (.fro (.bl (!decide (x = y)))) := rfl
theorem od_eq (hu : X.A.units + 64 < cLine) : OpD X (compareOp .Eq) gEq := opD_of fun pins s σ H x y v u Q A d e k I rx ry sd se ht hg hq => by
  unfold gEq at hg
  split at hg
  · rename_i k' a b
    have h1 := sees_str sd; subst h1
    have h2 := sees_str se; subst h2
    refine op_eq pins s σ H _ _ v u Q I rx ry ⟨rfl, ?_⟩
    have e : decide (V.str a = V.str b) = decide (a = b) := decide_eq_decide.mpr ⟨fun z => by injection z, fun z => by rw [z]⟩
    rw [e]
    exact hq _ _ H (Ex.refl H) (newF (.bl _)) hg
  · obtain ⟨⟨p1, s1⟩, ⟨p2, s2⟩, hk⟩ := hg
    exact op_eqD hu pins s σ H x y v u Q I rx ry ⟨_, _, sd.dp p1, se.dp p2, s1, s2, hq _ _ H (Ex.refl H) (newF (.bl _)) hk⟩
theorem od_ne (hu : X.A.units + 64 < cLine) : OpD X (compareOp .NotEq) gNe := opD_of fun pins s σ H x y v u Q A d e k I rx ry sd se ht hg hq => by
  unfold gNe at hg
  split at hg
  · rename_i k' a b
    have h1 := sees_str sd; subst h1
    have h2 := sees_str se; subst h2
    refine op_ne pins s σ H _ _ v u Q I rx ry ⟨rfl, ?_⟩
    have e : decide (V.str a = V.str b) = decide (a = b) := decide_eq_decide.mpr ⟨fun z => by injection z, fun z => by rw [z]⟩
    rw [e]
    exact hq _ _ H (Ex.refl H) (newF (.bl _)) hg
  · obtain ⟨⟨p1, s1⟩, ⟨p2, s2⟩, hk⟩ := hg
    exact op_neD hu pins s σ H x y v u Q I rx ry ⟨_, _, sd.dp p1, se.dp p2, s1, s2, hq _ _ H (Ex.refl H) (newF (.bl _)) hk⟩
def isNon : D → Bool
  | .non => true
  | _ => false
def gIsN : D → D → (Slot → Prop) → Prop
  | .raw _, _, _ => False
  | d, .non, k => k (.fro (.bl (isNon d)))
  | _, _, _ => False
def gNotN : D → D → (Slot → Prop) → Prop
  | .raw _, _, _ => False
  | d, .non, k => k (.fro (.bl (!isNon d)))
  | _, _, _ => False
theorem sees_isN {K : PySem.W.Frag} {A : Addr → Prop} {H : Hp} {v : V} {d : D} (h : Sees K A H v d) (n : ∀ r, d ≠ .raw r) : decide (v = .non) = isNon d := by
  match d, h, n with
  | .non, h, _ => cases sees_non h; rfl
  | .bl b, h, _ => cases sees_bl h; rfl
  | .int i, h, _ => cases sees_int h; rfl
  | .str i, h, _ => cases sees_str h; rfl
  | .tup ds, h, _ => obtain ⟨a, xs, rfl, _⟩ := sees_tup h; rfl
  | .lst ds, ⟨a, xs, hv, _⟩, _ => subst hv; rfl
  | .dct ds, ⟨a, xs, hv, _⟩, _ => subst hv; rfl
  | .arg ns, h, _ => obtain ⟨a, rfl, _⟩ := sees_arg h; rfl
  | .tix ys, h, _ => have h' : RepV K A H v (.tix ys) := h; cases h'; rfl
  | .obj c fs, ⟨a, C, dx, xs, hv, _⟩, _ => subst hv; rfl
  | .exc c f w, h, _ => have h' : RepV K A H v (.exc c f w) := h; cases h'; rfl
  | .fn f c q vs ds, h, _ => have h' : RepV K A H v (.fn f c q vs ds) := h; cases h'; rfl
  | .raw r, h, n => exact absurd rfl (n r)
theorem gNotN_get {d e : D} {k : Slot → Prop} (h : gNotN d e k) : (∀ r, d ≠ .raw r) ∧ e = .non ∧ k (.fro (.bl (!isNon d))) := by
  cases d <;> cases e <;> first | exact h.elim | exact ⟨nofun, rfl, h⟩
theorem od_notN : OpD X (compareOp .IsNot) gNotN := opD_of fun pins s σ H x y v u Q A d e k I rx ry sd se ht hg hq => by
  obtain ⟨n, rfl, hk⟩ := gNotN_get hg
  exact op_notN pins s σ H x y v u Q I rx ry ⟨sees_non se, by rw [sees_isN sd n]; exact hq _ _ H (Ex.refl H) (newF (.bl _)) hk⟩
theorem new_lst {K : PySem.W.Frag} {A : Addr → Prop} {H : Hp} {p : Addr} {vs : List V} {ds : List D} {b : Bool} (np : H p = none) (r : RepL K A H vs ds) : New K A H (L2.upd H p (.lst vs)) (.own b (.lst ds)) (.ref p) :=
  ⟨p, rfl, np, vs, upd_same, r.mono (S := fun _ => False) (Ex.new np).kp (fun _ z => z.elim) fun x z => z.elim .inl fun z => .inr (by rw [z]; exact np)⟩
theorem new_tup {K : PySem.W.Frag} {A : Addr → Prop} {H : Hp} {p : Addr} {vs : List V} {ds : List D} (np : H p = none) (r : RepL K A H vs ds) : New K A H (L2.upd H p (.tup vs)) (.fro (.tup ds)) (.ref p) :=
  .tup (SqT.of upd_same) (r.mono (S := fun _ => False) (Ex.new np).kp (fun _ z => z.elim) fun _ z => .inl z)
def gAdd : D → D → (Slot → Prop) → Prop
  | .int a, .int b, k => k (.fro (.int (a + b)))
  | .str a, .str b, k => a.length + b.length ≤ sizeLine ∧ k (.fro (.str (a ++ b)))
  | .lst a, .lst b, k => a.length + b.length ≤ sizeLine ∧ k (.own false (.lst (a ++ b)))
  | .tup a, .tup b, k => a.length + b.length ≤ sizeLine ∧ k (.fro (.tup (a ++ b)))
  | _, _, _ => False
theorem od_add : OpD X (binaryOp .Add) gAdd := opD_of fun pins s σ H x y v u Q A d e k I rx ry sd se ht hg hq => by
  match d, e, hg, sd, se with
  | .int a, .int b, hg, sd, se => exact op_add pins s σ H x y v u Q I rx ry ⟨a, b, sees_int sd, sees_int se, hq _ _ H (Ex.refl H) (newF (.int _)) hg⟩
  | .str a, .str b, hg, sd, se => exact op_add_str pins s σ H x y v u Q I rx ry ⟨a, b, sees_str sd, sees_str se, hg.1, hq _ _ H (Ex.refl H) (newF (.str _)) hg.2⟩
  | .lst a, .lst b, hg, ⟨p, xs, hv, e1, r1⟩, ⟨p2, ys, hv2, e2, r2⟩ =>
    exact op_cat pins s σ H x y v u Q I rx ry ⟨p, p2, xs, ys, hv, hv2, e1, e2, by rw [r1.length, r2.length]; exact hg.1, fun q nq => hq _ _ _ (Ex.new nq) (new_lst nq (r1.append r2)) hg.2⟩
  | .tup a, .tup b, hg, sd, se =>
    obtain ⟨p, xs, rfl, e1, r1⟩ := sees_tup sd
    obtain ⟨p2, ys, rfl, e2, r2⟩ := sees_tup se
    refine op_catA pins s σ H _ _ v u Q I rx ry ⟨p, p2, xs, ys, rfl, rfl, e1, e2, by rw [r1.length, r2.length]; exact hg.1, fun z => ?_, fun _ z => ?_, fun _ _ q nq => hq _ _ _ (Ex.new nq) (new_tup nq (r1.append r2)) hg.2⟩
    · subst z
      cases r1
      exact hq _ _ H (Ex.refl H) (newF (.tup e2 r2)) hg.2
    · subst z
      cases r2
      refine hq _ _ H (Ex.refl H) (newF (d := .tup (a ++ [])) ?_) hg.2
      rw [List.append_nil]
      exact .tup e1 r1
def gMul : D → D → (Slot → Prop) → Prop
  | .int a, .int b, k => CMulW a b ∧ k (.fro (.int (a * b)))
  | .lst a, .int n, k => (-(2 ^ 63) ≤ n ∧ n < 2 ^ 63 ∧ a.length * n.toNat ≤ sizeLine) ∧ k (.own false (.lst (List.replicate n.toNat a).flatten))
  | _, _, _ => False
theorem RepL.rep {K : PySem.W.Frag} {A : Addr → Prop} {H : Hp} {vs : List V} {ds : List D} (h : RepL K A H vs ds) : ∀ n : Nat, RepL K A H (List.replicate n vs).flatten (List.replicate n ds).flatten
  | 0 => .nil
  | n + 1 => by
    rw [List.replicate_succ, List.flatten_cons, List.replicate_succ, List.flatten_cons]
    exact h.append (RepL.rep h n)
theorem od_mul : OpD X (binaryOp .Mult) gMul := opD_of fun pins s σ H x y v u Q A d e k I rx ry sd se ht hg hq => by
  match d, e, hg, sd, se with
  | .int a, .int b, hg, sd, se => exact op_mulW pins s σ H x y v u Q I rx ry ⟨a, b, sees_int sd, sees_int se, hg.1, hq _ _ H (Ex.refl H) (newF (.int _)) hg.2⟩
  | .lst a, .int n, hg, ⟨p, xs, hv, e1, r1⟩, se =>
    exact op_rep pins s σ H x y v u Q I rx ry ⟨p, n, xs, hv, sees_int se, e1, hg.1.1, hg.1.2.1, by rw [r1.length]; exact hg.1.2.2, fun q nq => hq _ _ _ (Ex.new nq) (new_lst nq (r1.rep _)) hg.2⟩
end
end Dl
namespace Dl
open PySem L2
variable [TabN]
section
variable {X : Cx} {a b c : Expr} {pos : Pos} {w1 w2 w3 : WE}
def gIx : D → D → (Slot → Prop) → Prop
  | .lst ds, .int i, k => (match atI ds i with
    | some d => k (.fro d)
    | none => False)
  | .tup ds, .int i, k => (match atI ds i with
    | some d => k (.fro d)
    | none => False)
  | .arg ns, .int i, k => (match atI ns i with
    | some n => k (.fro (.int n))
    | none => False)
  | .str z, .int i, k => z.length ≤ sizeLine ∧ (match atI z.cps.toList i with
    | some n => k (.fro (.str ⟨#[n]⟩))
    | none => False)
  | _, _, _ => False
theorem atI_rep {K : PySem.W.Frag} {A : Addr → Prop} {H : Hp} {vs : List V} {ds : List D} {i : Int} {d : D} (r : RepL K A H vs ds) (h : atI ds i = some d) : ∃ v, atI vs i = some v ∧ RepV K A H v d := by
  unfold atI at h ⊢
  rw [← r.length] at h
  cases e : ixN vs.length i with
  | none => rw [e] at h; cases h
  | some j =>
    rw [e] at h
    have h : ds[j]? = some d := h
    obtain ⟨v, e1, rv⟩ := r.get h
    exact ⟨v, e1, rv⟩
theorem ix_all : IxR X (rD X.K gIx) := by
  have hI : IxR X (rIx X.K) := ix_seq
  intro value slice pins s σ H x y v u Q I rx ry ⟨A, d, e, k, sd, se, ht, hg, hq⟩ hs
  refine hI value slice pins s σ H x y v u Q I rx ry ?_ hs
  match d, e, hg, sd, se with
  | .lst ds, .int i, hg, ⟨p, xs, hv, e1, r1⟩, se =>
    cases e : atI ds i with
    | none => simp only [gIx, e] at hg
    | some d' =>
      simp only [gIx, e] at hg
      obtain ⟨z, f1, rz⟩ := atI_rep r1 e
      exact .inl ⟨p, xs, i, z, hv, sees_int se, SqL.of e1, f1, hq _ _ H (Ex.refl H) (newF rz) hg⟩
  | .tup ds, .int i, hg, sd, se =>
    obtain ⟨p, xs, rfl, e1, r1⟩ := sees_tup sd
    cases e : atI ds i with
    | none => simp only [gIx, e] at hg
    | some d' =>
      simp only [gIx, e] at hg
      obtain ⟨z, f1, rz⟩ := atI_rep r1 e
      exact .inr (.inl ⟨p, xs, i, z, rfl, sees_int se, e1, f1, hq _ _ H (Ex.refl H) (newF rz) hg⟩)
  | .arg ns, .int i, hg, sd, se =>
    obtain ⟨p, rfl, e1⟩ := sees_arg sd
    cases e : atI ns i with
    | none => simp only [gIx, e] at hg
    | some n =>
      simp only [gIx, e] at hg
      refine .inl ⟨p, _, i, .int n, rfl, sees_int se, e1.sq, ?_, hq _ _ H (Ex.refl H) (newF (.int n)) hg⟩
      unfold atI at e ⊢
      rw [List.length_map]
      cases q : ixN ns.length i with
      | none => rw [q] at e; cases e
      | some j =>
        rw [q] at e
        have e : ns[j]? = some n := e
        show (ns.map V.int)[j]? = _
        rw [List.getElem?_map, e]; rfl
  | .str z, .int i, hg, sd, se =>
    obtain ⟨hl, hg⟩ := hg
    cases e : atI z.cps.toList i with
    | none => simp only [e] at hg
    | some n =>
      simp only [e] at hg
      exact .inr (.inr ⟨z, i, n, sees_str sd, sees_int se, hl, e, hq _ _ H (Ex.refl H) (newF (.str _)) hg⟩)
theorem me_ix (ha : ME X a w1) (hb : ME X b w2) (hs : PlainIx b) : ME X (.Subscript a b pos) (wOp gIx w1 w2) :=
  me_of (pe_ix ix_all ha hb hs) fun B ρ σ H Q' Q R hw hq => wOp_ok R hw hq
def cutD (xs : List D) (lo hi : Option Int) : List D := (xs.drop (HT.sIx xs.length 0 lo)).take (HT.sIx xs.length xs.length hi - HT.sIx xs.length 0 lo)
def gSl : D → Option Int → Option Int → (Slot → Prop) → Prop
  | .lst ds, lo, hi, k => k (.own false (.lst (cutD ds lo hi)))
  | .tup ds, lo, hi, k => k (.fro (.tup (cutD ds lo hi)))
  | _, _, _, _ => False
theorem cut_rep {K : PySem.W.Frag} {A : Addr → Prop} {H : Hp} {vs : List V} {ds : List D} {lo hi : Option Int} (r : RepL K A H vs ds) : RepL K A H (cutV vs lo hi) (cutD ds lo hi) := by
  unfold cutV cutD
  rw [r.length]
  exact (r.drop _).take _
def rSlD (K : PySem.W.Frag) : V → Option Int → Option Int → Hp → VK → Prop := fun x lo hi H Q => ∃ (A : Addr → Prop) (d : D) (k : Slot → Prop), Sees K A H x d ∧ gSl d lo hi k ∧ ∀ s v H', Ex H H' → New K A H H' s v → k s → Q v H'
theorem sl_all : SlR X (rSlD X.K) := by
  intro pins s σ H x v vl vu lo hi sl Q I rx hs pl pu ⟨A, d, k, sd, hg, hq⟩
  match d, hg, sd with
  | .lst ds, hg, ⟨p, xs, hv, e1, r1⟩ =>
    exact sl_list pins s σ H x v vl vu lo hi sl Q I rx hs pl pu ⟨p, xs, hv, SqL.of e1, fun q nq => hq _ _ _ (Ex.new nq) (new_lst nq (cut_rep r1)) hg⟩
  | .tup ds, hg, sd =>
    obtain ⟨p, xs, rfl, e1, r1⟩ := sees_tup sd
    refine sl_tupA pins s σ H _ v vl vu lo hi sl Q I rx hs pl pu ⟨p, xs, rfl, e1, fun ⟨h1, h2⟩ => ?_, fun _ q nq => hq _ _ _ (Ex.new nq) (new_tup nq (cut_rep r1)) hg⟩
    have e : cutD ds lo hi = ds := by
      unfold cutD
      rw [← r1.length, h1, h2, r1.length]
      simp
    refine hq _ _ H (Ex.refl H) (newF (d := .tup (cutD ds lo hi)) ?_) hg
    rw [e]
    exact .tup e1 r1
abbrev WO := List Slot → (Option Int → List Slot → Prop) → Prop
def toOf (K : PySem.W.Frag) (w : WO) : TO := fun σ H Q => ∃ (B : Addr → Prop) (ρ : List Slot) (Q' : Option Int → List Slot → Prop), Rep K B ρ σ H ∧ w ρ Q' ∧
  ∀ o ρ' H', Rep K B ρ' σ H' → Sub ρ' ρ → Kp (Own ρ σ) H H' → Q' o ρ' → Q o H'
def MO (X : Cx) (e : Option Expr) (w : WO) : Prop := PO X e (toOf X.K w)
def wNoP : WO := fun ρ Q => Q none ρ
def wP (w : WE) : WO := fun ρ Q => w ρ fun s ρ' => match s with
  | .fro (.int i) => Q (some i) ρ'
  | _ => False
theorem PO_weak {e : Option Expr} {t t' : TO} (h : PO X e t) (k : ∀ σ H Q, t' σ H Q → t σ H Q) : PO X e t' := ⟨fun pins s σ H Q I q => h.run pins s σ H Q I (k σ H Q q)⟩
theorem mo_none : MO X none wNoP := PO_weak po_none fun σ H Q ⟨B, ρ, Q', R, hw, hq⟩ => hq none ρ H R (Sub.refl ρ) Kp.refl hw
theorem mo_some (h : ME X a w1) : MO X (some a) (wP w1) := PO_weak (po_some h) fun σ H Q ⟨B, ρ, Q', R, hw, hq⟩ => by
  refine ⟨B, ρ, _, R, hw, fun s v ρ' H' post sub kp q => ?_⟩
  match s, post, q with
  | .fro (.int i), ⟨R', r⟩, q => cases r; exact ⟨i, rfl, hq _ ρ' H' R' sub kp q⟩
def wSl (w : WE) (wl wh : WO) : WE := fun ρ Q => w ρ fun s ρ1 => wl ρ1 fun lo ρ2 => wh ρ2 fun hi ρ3 => match lookD ρ3 s with
  | some d => gSl d lo hi fun r => Q r ρ3
  | none => False
theorem me_slice {lo hi : Option Expr} {wl wh : WO} {p2 : Pos} (he : ME X a w1) (hl : MO X lo wl) (hu : MO X hi wh) : ME X (.Subscript a (.Slice lo hi none p2) pos) (wSl w1 wl wh) :=
  me_of (pe_slice sl_all he hl hu) fun B ρ σ H Q' Q R hw hq => by
    refine ⟨B, ρ, _, R, hw, fun s v ρ1 H1 post sub kp q => ?_⟩
    obtain ⟨B1, b1, b1', R1, P1⟩ := post.pend
    refine ⟨B1, ρ1, _, R1, q, fun l ρ2 H2 R2 s2 k2 q2 => ⟨B1, ρ2, _, R2, q2, fun h ρ3 H3 R3 s3 k3 q3 => ?_⟩⟩
    have P3 := (P1.step R1 k2 s2 (fun _ z => z) fun _ z => .inl z).step R2 k3 s3 (fun _ z => z) fun _ z => .inl z
    cases e : lookD ρ3 s with
    | none => rw [e] at q3; exact q3.elim
    | some d =>
      rw [e] at q3
      have kk := (kp.trans k2 fun x z => sub.own x z).trans k3 fun x z => sub.own x (s2.own x z)
      exact ⟨_, d, _, P3.sees R3 e, q3, fun r y H' ex n hk => hq r y ρ3 H' (n.post R3 b1 kk ex) ((sub.trans s2).trans s3) (kk.trans ex.kp fun _ z => z) hk⟩
def wChain (g g' : D → D → (Slot → Prop) → Prop) (w1 w2 w3 : WE) : WE := fun ρ Q => w1 ρ fun s1 ρ1 => w2 ρ1 fun s2 ρ2 => with2 ρ2 s1 s2 fun d1 d2 => g d1 d2 fun r => match r with
  | .fro (.bl k) => if k = true then w3 ρ2 fun s3 ρ3 => with2 ρ3 s2 s3 fun e2 e3 => g' e2 e3 fun r' => Q r' ρ3 else Q (.fro (.bl false)) ρ2
  | _ => False
theorem chain_ok {K : PySem.W.Frag} {g g' : D → D → (Slot → Prop) → Prop} {B : Addr → Prop} {ρ : List Slot} {σ : L2.St} {H : Hp} {Q' : Slot → List Slot → Prop} {Q : VK} (R : Rep K B ρ σ H) (hw : wChain g g' w1 w2 w3 ρ Q')
    (hq : ∀ s v ρ' H', Post K B ρ' σ H H' s v → Sub ρ' ρ → Kp (Own ρ σ) H H' → Q' s ρ' → Q v H') : tChain (rD K g) (rD K g') (tOf K w1) (tOf K w2) (tOf K w3) σ H Q := by
  refine seq2 R hw fun s1 s2 x y ρ2 B2 H2 b2 b2' R2 P1 P2 sub kp q => ?_
  obtain ⟨d1, d2, e1, e2, q⟩ := with2_get q
  refine ⟨_, d1, d2, _, P1.sees R2 e1, P2.sees R2 e2, fun a z => R2.av_trk z, q, fun s v H' ex n h => ?_⟩
  match s, n, h with
  | .fro (.bl kk), n, h =>
    have n' : RepV K _ H' v (.bl kk) := n
    cases n'
    have R3 := R2.ex (B' := B2) ex fun a z => .inl z
    have kp3 : Kp (Own ρ σ) H H' := kp.trans ex.kp fun _ z => z
    refine ⟨kk, rfl, ?_⟩
    cases kk with
    | false => exact hq _ _ ρ2 H' (postF (R3.fewer b2) (.bl false)) sub kp3 h
    | true =>
      refine ⟨B2, ρ2, _, R3, h, fun s3 z ρ4 H4 post s4 k4 q4 => ?_⟩
      obtain ⟨B4, b4, b4', R4, P4⟩ := post.pend
      obtain ⟨d3, d4, e3, e4, q4⟩ := with2_get q4
      have P2' := (P2.step R2 (ex.kp (S := Own ρ2 σ)) (Sub.refl ρ2) (fun _ z => z) fun _ z => .inl z).step R3 k4 s4 b4 b4'
      have kp4 := kp3.trans k4 fun a z => sub.own a z
      exact ⟨_, d3, d4, _, P2'.sees R4 e3, P4.sees R4 e4, fun a z => R4.av_trk z, q4, fun s v H5 ex5 n5 h5 => hq s v ρ4 H5 (n5.post R4 (fun a z => b4 a (b2 a z)) kp4 ex5) (sub.trans s4) (kp4.trans ex5.kp fun _ z => z) h5⟩
theorem me_chain {op op' : CmpOp} {g g' : D → D → (Slot → Prop) → Prop} (ho : OpD X (compareOp op) g) (ho' : OpD X (compareOp op') g') (ha : ME X a w1) (hb : ME X b w2) (hc : ME X c w3)
    (hm : lastMarks [op, op'] [b, c] = false := by with_unfolding_all rfl) : ME X (.Compare a [op, op'] [b, c] pos) (wChain g g' w1 w2 w3) :=
  me_of (pe_chain ho ho' ha hb hc hm) fun B ρ σ H Q' Q R hw hq => chain_ok R hw hq
def wNeg (w : WE) : WE := fun ρ Q => w ρ fun s ρ' => match s with
  | .fro (.int i) => Q (.fro (.int (-i))) ρ'
  | _ => False
theorem me_neg (ha : ME X a w1) : ME X (.UnaryOp .USub a pos) (wNeg w1) := me_of (pe_un un_neg ha) fun B ρ σ H Q' Q R hw hq => by
  refine ⟨B, ρ, _, R, hw, fun s v ρ' H' post sub kp q => ?_⟩
  match s, post, q with
  | .fro (.int i), ⟨R', r⟩, q => cases r; exact ⟨i, rfl, hq _ _ ρ' H' (postF R' (.int _)) sub kp q⟩
end
end Dl
namespace Dl
open PySem PySem.Spec PyProof.Rows L2
variable [TabN]
section
variable {prog : Program} {w : World} {A : Around} {E : Value → Shared → Prop} {s : Shared}
theorem collectT {l : Addr} {vs : List Value} {Q : List Value → Shared → Prop} (hl : IsTup s.heap l vs.toArray) (hsz : vs.length ≤ sizeLine)
    (h : Q vs { s with heap := (s.heap.push (seqObj "list" #[] 0)).update s.heap.objs.size (Obj.mapSeq (· ++ vs.toArray)) }) : wpAny (model prog w) A (collect (.ref l)) Q E s := by
  obtain ⟨o, ho, hc, n, hd⟩ := hl
  unfold collect
  refine wpAny_bind (wpAny_runValue (codeAny_builtin entry_proto_collect' ?_))
  show wpAny _ _ (newList [] >>= fun l0 => again (.builtin "list.__iadd__" ⟨[l0, .ref l], []⟩)) _ _ s
  refine wpAny_bind (wpAny_newList (wpAny_pure ⟨Code.quiet_builtin _ (by decide +kernel), codeAny_builtin entry_list_iadd' ?_⟩))
  show wpAny _ _ (Builtin.List.listExtendWith (.ref s.heap.objs.size) (.ref l) (.ref s.heap.objs.size)) _ _ { s with heap := s.heap.push (seqObj "list" #[] 0) }
  unfold Builtin.List.listExtendWith
  have ho' : (s.heap.push (seqObj "list" #[] 0)).get? l = some o := Heap.get?_push_of_some _ ho
  have hN : (s.heap.push (seqObj "list" #[] 0)).get? s.heap.objs.size = some (seqObj "list" #[] 0) := Heap.get?_push_size _ rfl
  refine wpAny_bind (wpAny_typeOf (T := "tuple") ⟨o, ho', hc⟩ ?_)
  rw [if_pos (by rw [show (Value.type "tuple" == Value.type "tuple") = true from rfl, Bool.or_true])]
  refine wpAny_bind (listItems_at ho' hd ?_)
  refine wpAny_bind (listItems_at (xs := #[]) (n := 0) hN rfl ?_)
  rw [if_neg (by simp)]
  refine wpAny_bind (listUpdate_at (xs := #[]) (n := 0) hN rfl ?_ (Nat.zero_le _) (by simp; omega))
  refine wpAny_pure ?_
  show wpAny (model prog w) A (load s.heap.objs.size >>= fun o => match o.data with
      | .seq xs _ => pure xs.toList
      | _ => unsupported "internal:collect") Q E _
  refine wpAny_bind (wpAny_load (get?_update_seq hN _) ?_)
  show wpAny _ _ (pure ((#[] : Array Value) ++ vs.toArray).toList) Q E _
  have e : ((#[] : Array Value) ++ vs.toArray).toList = vs := by simp
  rw [e]
  exact wpAny_pure h
theorem sortedT {l : Addr} {vs : List Value} {k : Value → Int × Int} {Q : Value → Shared → Prop} (hl : IsTup s.heap l vs.toArray) (hz : vs.length ≤ sizeLine) (hp : ∀ v ∈ vs, Srt.IsPair s.heap v (k v).1 (k v).2)
    (h : ∀ (h' : Heap) (d : Addr) (out : List Value), SrtO.Srtd (fun v u => SrtO.lexB (k v) (k u)) out → SrtO.Stb (fun v u => SrtO.lexB (k v) (k u)) out vs → (∀ b o, s.heap.get? b = some o → h'.get? b = some o) → s.heap.objs.size ≤ d →
      (∃ n, h'.get? d = some (seqObj "list" out.toArray n)) → Q (.ref d) { s with heap := h' }) : wpAny (model prog w) A (call (.builtin "sorted") [.ref l]) Q E s := by
  refine Calls.call_function_entry kind_sorted plain_sorted entry_sorted (args_sorted1 _) ?_
  unfold Builtin.«sorted»
  refine wpAny_bind (m := checkCount "sorted" 1 1 _) (wpAny_pure (wpAny_bind (collectT hl hz (wpAny_bind (wpAny_newList ?_ hz)))))
  let hA := (s.heap.push (seqObj "list" #[] 0)).update s.heap.objs.size (Obj.mapSeq (· ++ vs.toArray))
  have hsz : hA.objs.size = s.heap.objs.size + 1 := by rw [Heap.size_update, size_push']
  have hoL : (hA.push (seqObj "list" vs.toArray 0)).get? (s.heap.objs.size + 1) = some (seqObj "list" vs.toArray 0) := by
    rw [← hsz]; exact Heap.get?_push_size _ rfl
  have keep : ∀ b o, s.heap.get? b = some o → b ≠ s.heap.objs.size + 1 ∧ (hA.push (seqObj "list" vs.toArray 0)).get? b = some o := fun b o q => by
    have hlt := Heap.lt_size q
    refine ⟨Nat.ne_of_lt (Nat.lt_succ_of_lt hlt), Heap.get?_push_of_some _ ?_⟩
    rw [Heap.get?_update_ne _ _ _ _ (Nat.ne_of_lt hlt)]
    exact Heap.get?_push_of_some _ q
  show wpAny _ _ _ _ _ { s with heap := hA.push (seqObj "list" vs.toArray 0) }
  rw [hsz]
  refine wpAny_bind (wpAny_holding (wpAny_call_entry slot_list_sort ⟨_, hoL, rfl⟩ entry_list_sort (SrtO.list_sort_ord (SrtO.swo_lex k) hoL hz (fun h2 => ?_) fun out hs hb => ⟨_, rfl, ?_⟩) (args_list_sort _)))
  · refine SrtO.pairs_sortableO (by omega) (fun v hm => (hp v hm).keeps fun b o e _ => (keep b o e).2) fun o e c => ?_
    have e' : some o = some (seqObj "list" vs.toArray 0) := e.symm.trans hoL
    cases e'
    exact absurd (Value.type.inj c) (by decide)
  · exact wpAny_pure ⟨_, rfl, h _ _ out hs hb (fun b o e => sortedAll_old e) (Nat.le_succ _) (sortedAll_at s.heap vs out.toArray)⟩
end
section
variable {X : Cx}
theorem callD_of {f : Value} {g : List D → (Dl.Slot → Prop) → Prop}
    (h : ∀ (pins : List (Addr × Obj)) (s : Shared) (σ : L2.St) (H : Hp) (vs : List V) (us : List Value) (Q : VK) (A : Addr → Prop) (ds : List D) (k : Dl.Slot → Prop), Inv X pins σ H s → Vals vs us → SeesL X.K A H vs ds → (∀ a, A a → H a ≠ none) → g ds k →
      (∀ s v H', Ex H H' → New X.K A H H' s v → k s → Q v H') → wpAny (model X.prog X.w) X.A (call f us) (EP X pins σ Q) X.xe s) : CallD X f g :=
  fun pins s σ H vs us Q I r ⟨A, ds, k, sl, ht, hg, hq⟩ => h pins s σ H vs us Q A ds k I r sl ht hg hq
def gLen : List D → (Dl.Slot → Prop) → Prop
  | [.lst ds], k => k (.fro (.int ds.length))
  | [.tup ds], k => k (.fro (.int ds.length))
  | [.arg ns], k => k (.fro (.int ns.length))
  | [.str z], k => z.length ≤ sizeLine ∧ k (.fro (.int z.length))
  | _, _ => False
theorem cd_len : CallD X (.builtin "len") gLen := callD_of fun pins s σ H vs us Q A ds k I r sl ht hg hq => by
  match ds, hg, sl with
  | [.lst ds], hg, sl =>
    obtain ⟨v, rfl, p, xs, rfl, e, rl⟩ := seesL1 sl
    exact call_len_seq pins s σ H _ us Q I r ⟨p, xs, rfl, .inl (SqL.of e), by rw [rl.length]; exact hq _ _ H (Ex.refl H) (newF (.int _)) hg⟩
  | [.tup ds], hg, sl =>
    obtain ⟨v, rfl, sv⟩ := seesL1 sl
    obtain ⟨p, xs, rfl, e, rl⟩ := sees_tup sv
    exact call_len_seq pins s σ H _ us Q I r ⟨p, xs, rfl, .inr e, by rw [rl.length]; exact hq _ _ H (Ex.refl H) (newF (.int _)) hg⟩
  | [.arg ns], hg, sl =>
    obtain ⟨v, rfl, sv⟩ := seesL1 sl
    obtain ⟨p, rfl, e⟩ := sees_arg sv
    exact call_len_seq pins s σ H _ us Q I r ⟨p, _, rfl, .inl e.sq, by rw [List.length_map]; exact hq _ _ H (Ex.refl H) (newF (.int _)) hg⟩
  | [.str z], hg, sl =>
    obtain ⟨v, rfl, sv⟩ := seesL1 sl
    cases sees_str sv
    exact call_len_str pins s σ H _ us Q I r ⟨z, rfl, hg.1, hq _ _ H (Ex.refl H) (newF (.int _)) hg.2⟩
def gAbs : List D → (Dl.Slot → Prop) → Prop
  | [.int i], k => k (.fro (.int (if i < 0 then -i else i)))
  | _, _ => False
theorem cd_abs : CallD X (.builtin "abs") gAbs := callD_of fun pins s σ H vs us Q A ds k I r sl ht hg hq => by
  match ds, hg, sl with
  | [.int i], hg, sl =>
    obtain ⟨v, rfl, sv⟩ := seesL1 sl
    cases sees_int sv
    exact call_abs pins s σ H _ us Q I r ⟨i, rfl, hq _ _ H (Ex.refl H) (newF (.int _)) hg⟩
def gInt1 : List D → (Dl.Slot → Prop) → Prop
  | [.int i], k => k (.fro (.int i))
  | [.bl b], k => k (.fro (.int (if b then 1 else 0)))
  | _, _ => False
theorem cd_int : CallD X (.type "int") gInt1 := callD_of fun pins s σ H vs us Q A ds k I r sl ht hg hq => by
  match ds, hg, sl with
  | [.int i], hg, sl =>
    obtain ⟨v, rfl, sv⟩ := seesL1 sl
    cases sees_int sv
    exact call_int1 pins s σ H _ us Q I r (.inl ⟨i, rfl, hq _ _ H (Ex.refl H) (newF (.int _)) hg⟩)
  | [.bl b], hg, sl =>
    obtain ⟨v, rfl, sv⟩ := seesL1 sl
    cases sees_bl sv
    exact call_int1 pins s σ H _ us Q I r (.inr ⟨b, rfl, hq _ _ H (Ex.refl H) (newF (.int _)) hg⟩)
def gMax2 : List D → (Dl.Slot → Prop) → Prop
  | [.int i, .int j], k => k (.fro (.int (max i j)))
  | _, _ => False
def gMin2 : List D → (Dl.Slot → Prop) → Prop
  | [.int i, .int j], k => k (.fro (.int (min i j)))
  | _, _ => False
theorem cd_max (hc : X.calm = true) : CallD X (.builtin "max") gMax2 := callD_of fun pins s σ H vs us Q A ds k I r sl ht hg hq => by
  match ds, hg, sl with
  | [.int i, .int j], hg, sl =>
    obtain ⟨v, u, rfl, sv, su⟩ := seesL2 sl
    cases sees_int sv
    cases sees_int su
    refine call_max2 hc pins s σ H _ us Q I r ⟨i, j, rfl, ?_⟩
    have e : (if j > i then j else i) = max i j := by by_cases h : j > i <;> simp only [h, if_true, if_false] <;> omega
    rw [e]
    exact hq _ _ H (Ex.refl H) (newF (.int _)) hg
theorem cd_min (hc : X.calm = true) : CallD X (.builtin "min") gMin2 := callD_of fun pins s σ H vs us Q A ds k I r sl ht hg hq => by
  match ds, hg, sl with
  | [.int i, .int j], hg, sl =>
    obtain ⟨v, u, rfl, sv, su⟩ := seesL2 sl
    cases sees_int sv
    cases sees_int su
    refine call_min2 hc pins s σ H _ us Q I r ⟨i, j, rfl, ?_⟩
    have e : (if j < i then j else i) = min i j := by by_cases h : j < i <;> simp only [h, if_true, if_false] <;> omega
    rw [e]
    exact hq _ _ H (Ex.refl H) (newF (.int _)) hg
def gTuple : List D → (Dl.Slot → Prop) → Prop
  | [.lst ds], k => k (.fro (.tup ds))
  | [.tup ds], k => k (.fro (.tup ds))
  | _, _ => False
def gList : List D → (Dl.Slot → Prop) → Prop
  | [.lst ds], k => k (.own false (.lst ds))
  | [.tup ds], k => k (.own false (.lst ds))
  | _, _ => False
theorem cd_tuple : CallD X (.type "tuple") gTuple := callD_of fun pins s σ H vs us Q A ds k I r sl ht hg hq => by
  match ds, hg, sl with
  | [.lst ds], hg, sl =>
    obtain ⟨v, rfl, p, xs, rfl, e, rl⟩ := seesL1 sl
    exact call_tuple_of pins s σ H _ us Q I r ⟨p, xs, rfl, .inl ⟨SqL.of e, fun q nq => hq _ _ _ (Ex.new nq) (new_tup nq rl) hg⟩⟩
  | [.tup ds], hg, sl =>
    obtain ⟨v, rfl, sv⟩ := seesL1 sl
    obtain ⟨p, xs, rfl, e, rl⟩ := sees_tup sv
    exact call_tuple_of pins s σ H _ us Q I r ⟨p, xs, rfl, .inr ⟨e, hq _ _ H (Ex.refl H) (newF (.tup e rl)) hg⟩⟩
end
end Dl
namespace Dl
open PySem PySem.Spec PyProof.Rows L2
variable [TabN]
section
variable {X : Cx}
def boolsOf : List D → Option (List Bool)
  | [] => some []
  | .bl b :: ds => (boolsOf ds).map (b :: ·)
  | _ => none
theorem bools_rep {K : PySem.W.Frag} {A : Addr → Prop} {H : Hp} : ∀ {vs : List V} {ds : List D} {bs : List Bool}, RepL K A H vs ds → boolsOf ds = some bs → vs = bs.map V.bl
  | _, [], _, .nil, e => by cases e; rfl
  | _, .bl b :: ds, bs, .cons (.bl _) r, e => by
    rw [boolsOf] at e
    cases q : boolsOf ds with
    | none => rw [q] at e; cases e
    | some cs => rw [q] at e; cases e; rw [List.map_cons, bools_rep r q]
theorem boolsOf_map {α : Type} (f : α → Bool) : ∀ l : List α, boolsOf (l.map fun x => D.bl (f x)) = some (l.map f)
  | [] => rfl
  | x :: l => by rw [List.map_cons, boolsOf, boolsOf_map f l]; rfl
def gAny : List D → (Dl.Slot → Prop) → Prop
  | [.lst ds], k => (match boolsOf ds with
    | some bs => k (.fro (.bl (bs.any id)))
    | none => False)
  | _, _ => False
theorem cd_any (hc : X.calm = true) : CallD X (.builtin "any") gAny := callD_of fun pins s σ H vs us Q A ds k I r sl ht hg hq => by
  match ds, hg, sl with
  | [.lst ds], hg, sl =>
    obtain ⟨v, rfl, p, xs, rfl, e, rl⟩ := seesL1 sl
    cases eb : boolsOf ds with
    | none => simp only [gAny, eb] at hg
    | some bs =>
      simp only [gAny, eb] at hg
      exact cr_any hc pins s σ H _ us Q I r ⟨p, bs, rfl, by rw [← bools_rep rl eb]; exact SqL.of e, hq _ _ H (Ex.refl H) (newF (.bl _)) hg⟩
def tyD : D → Option String
  | .non => some "NoneType"
  | .bl _ => some "bool"
  | .int _ => some "int"
  | .str _ => some "str"
  | .tup _ => some "tuple"
  | .lst _ => some "list"
  | .dct _ => some "dict"
  | _ => none
def isD (T : String) (d : D) : Option Bool := match tyD d with
  | some t => kitB t T
  | none => none
def gIsi : List D → (Dl.Slot → Prop) → Prop
  | [d, .raw (.ty T)], k => (match isD T d with
    | some b => k (.fro (.bl b))
    | none => False)
  | _, _ => False
def pairD (p : Int × Int) : D := .tup [.int p.1, .int p.2]
def lexLe (p q : Int × Int) : Prop := p.1 < q.1 ∨ (p.1 = q.1 ∧ p.2 ≤ q.2)
def pairsOf : List D → Option (List (Int × Int))
  | [] => some []
  | .tup [.int a, .int b] :: ds => (pairsOf ds).map ((a, b) :: ·)
  | _ => none
theorem pairsOf_map : ∀ l : List (Int × Int), pairsOf (l.map pairD) = some l
  | [] => rfl
  | p :: l => by rw [List.map_cons, pairD, pairsOf, pairsOf_map l]; rfl
theorem pairsOf_eq : ∀ {ds : List D} {ps : List (Int × Int)}, pairsOf ds = some ps → ds = ps.map pairD := by
  intro ds
  induction ds using pairsOf.induct with
  | case1 => intro ps h; cases h; rfl
  | case2 a b ds ih =>
    intro ps h
    rw [pairsOf] at h
    cases q : pairsOf ds with
    | none => rw [q] at h; cases h
    | some cs => rw [q] at h; cases h; rw [ih q]; rfl
  | case3 ds h1 h2 => intro ps h; rw [pairsOf] at h <;> first | cases h | assumption
def gSortP : List D → (Dl.Slot → Prop) → Prop
  | [.lst ds], k => (match pairsOf ds with
    | some ps => ∀ qs : List (Int × Int), qs.Perm ps → qs.Pairwise lexLe → k (.own false (.lst (qs.map pairD)))
    | none => False)
  | [.tup ds], k => (match pairsOf ds with
    | some ps => ∀ qs : List (Int × Int), qs.Perm ps → qs.Pairwise lexLe → k (.own false (.lst (qs.map pairD)))
    | none => False)
  | _, _ => False
open Classical in
noncomputable def keyAt (h : Heap) (u : Value) : Int × Int := if q : ∃ p : Int × Int, Srt.IsPair h u p.1 p.2 then choose q else (0, 0)
theorem keyAt_of {h : Heap} {u : Value} {x y : Int} (p : Srt.IsPair h u x y) : keyAt h u = (x, y) := by
  have q : ∃ p : Int × Int, Srt.IsPair h u p.1 p.2 := ⟨(x, y), p⟩
  have e : keyAt h u = Classical.choose q := dif_pos q
  rw [e]
  obtain ⟨a, o, t, v, n, e1, e2, _, e4⟩ := Classical.choose_spec q
  obtain ⟨a', o', t', v', n', f1, f2, _, f4⟩ := p
  rw [e1] at f1; cases f1
  rw [e2] at f2; cases f2
  rw [e4] at f4
  injection f4 with g1 _
  have g2 := congrArg Array.toList g1
  simp only [List.cons.injEq, Value.int.injEq, and_true] at g2
  exact Prod.ext g2.1.1 g2.2.1
theorem lex_le {p q : Int × Int} (h : SrtO.lexB q p = false) : lexLe p q := by
  have := SrtO.lexB_no.mp h
  unfold lexLe
  omega
theorem pair_val {pins : List (Addr × Obj)} {σ : L2.St} {H : Hp} {s : Shared} {A : Addr → Prop} {v : V} {u : Value} {p : Int × Int} (I : Inv X pins σ H s) (r : RepV X.K A H v (pairD p)) (rv : RelV v u) : Srt.IsPair s.heap u p.1 p.2 ∧ v = backV u := by
  cases r with
  | tup hs rl =>
    obtain ⟨v1, v2, rfl, r1, r2⟩ := repL_one rl
    cases r1
    cases r2
    cases rv
    obtain ⟨its, vi, ⟨o, ho, hc, n, hd⟩, _⟩ := I.tuple hs
    obtain ⟨u1, u2, rfl, ⟨t1, rfl⟩, ⟨t2, rfl⟩⟩ := vals2 vi
    exact ⟨⟨_, o, t1, t2, n, rfl, ho, hc, hd⟩, rfl⟩
theorem pairs_vals {pins : List (Addr × Obj)} {σ : L2.St} {H : Hp} {s : Shared} {A : Addr → Prop} (I : Inv X pins σ H s) : ∀ {vs : List V} {us : List Value} {ps : List (Int × Int)}, RepL X.K A H vs (ps.map pairD) → Vals vs us →
    (∀ u ∈ us, Srt.IsPair s.heap u (keyAt s.heap u).1 (keyAt s.heap u).2 ∧ (∃ a, u = .ref a) ∧ RepV X.K A H (backV u) (pairD (keyAt s.heap u))) ∧ us.map (keyAt s.heap) = ps
  | _, _, [], .nil, .nil => ⟨fun u hu => (nomatch hu), rfl⟩
  | _, _, p :: ps, .cons r1 r2, .cons q1 q2 => by
    obtain ⟨h1, h2⟩ := pairs_vals I r2 q2
    obtain ⟨hp, hb⟩ := pair_val I r1 q1
    have e := keyAt_of hp
    refine ⟨fun u hu => ?_, by rw [List.map_cons, h2, e]⟩
    rcases List.mem_cons.mp hu with rfl | hu
    · rw [e]
      obtain ⟨a, _, _, _, _, e1, _⟩ := id hp
      exact ⟨hp, ⟨a, e1⟩, by rw [← hb]; exact r1⟩
    · exact h1 u hu
theorem rep_back {K : PySem.W.Frag} {A : Addr → Prop} {H : Hp} {f : Value → Int × Int} : ∀ {us : List Value}, (∀ u ∈ us, RepV K A H (backV u) (pairD (f u))) → RepL K A H (us.map backV) ((us.map f).map pairD)
  | [], _ => .nil
  | u :: us, h => .cons (h u (by simp)) (rep_back fun x hx => h x (List.mem_cons_of_mem _ hx))
theorem cd_sortP : CallD X (.builtin "sorted") gSortP := callD_of fun pins s σ H vs us Q A ds k I r sl ht hg hq => by
  have fin : ∀ {its : List Value} {ps : List (Int × Int)} {xs : List V}, RepL X.K A H xs (ps.map pairD) → Vals xs its → its.length ≤ sizeLine → (∀ qs : List (Int × Int), qs.Perm ps → qs.Pairwise lexLe → k (.own false (.lst (qs.map pairD)))) →
      ∀ (h' : Heap) (d : Addr) (out : List Value), SrtO.Srtd (fun v u => SrtO.lexB (keyAt s.heap v) (keyAt s.heap u)) out → SrtO.Stb (fun v u => SrtO.lexB (keyAt s.heap v) (keyAt s.heap u)) out its → (∀ b o, s.heap.get? b = some o → h'.get? b = some o) → s.heap.objs.size ≤ d →
        (∃ n, h'.get? d = some (seqObj "list" out.toArray n)) → EP X pins σ Q (.ref d) { s with heap := h' } := fun {its ps xs} rl rv hz hk h' d out h1 h2 kp hd hn => by
    obtain ⟨n, hn⟩ := hn
    obtain ⟨a1, a2⟩ := pairs_vals I rl rv
    have mem : ∀ u ∈ out, u ∈ its := fun u hu => h2.perm.mem_iff.mp hu
    have nd : H d = none := I.hok.fresh hd
    refine ⟨.ref d, L2.upd H d (.lst (out.map backV)), I.laid (t' := s.toks) kp hd ⟨by rw [List.length_map, h2.len]; exact hz, out, n, vals_back fun u hu => (a1 u (mem u hu)).2.1, hn⟩, rfl, ?_⟩
    refine hq _ _ _ (Ex.new nd) (new_lst (b := false) nd (rep_back fun u hu => (a1 u (mem u hu)).2.2)) (hk _ ?_ ?_)
    · rw [← a2]; exact h2.perm.map _
    · exact List.pairwise_map.mpr (h1.imp fun h => lex_le h)
  match ds, hg, sl with
  | [.lst ds], hg, sl =>
    obtain ⟨v, rfl, p, xs, rfl, e, rl⟩ := seesL1 sl
    cases ep : pairsOf ds with
    | none => simp only [gSortP, ep] at hg
    | some ps =>
      simp only [gSortP, ep] at hg
      rw [pairsOf_eq ep] at rl
      obtain ⟨its, rv, hl, hz⟩ := I.list (SqL.of e)
      obtain ⟨u, rfl, ru⟩ := vals1 r
      obtain rfl : u = Value.ref p := ru
      have hz' : its.length ≤ sizeLine := by rw [← rv.length]; exact hz
      exact SrtO.sorted_pairsO (k := keyAt s.heap) hl.isList hz' (fun v hv => ((pairs_vals I rl rv).1 v hv).1) (fin rl rv hz' hg)
  | [.tup ds], hg, sl =>
    obtain ⟨v, rfl, sv⟩ := seesL1 sl
    obtain ⟨p, xs, rfl, e, rl⟩ := sees_tup sv
    cases ep : pairsOf ds with
    | none => simp only [gSortP, ep] at hg
    | some ps =>
      simp only [gSortP, ep] at hg
      rw [pairsOf_eq ep] at rl
      obtain ⟨its, rv, hl, hz⟩ := I.tuple e
      obtain ⟨u, rfl, ru⟩ := vals1 r
      obtain rfl : u = Value.ref p := ru
      have hz' : its.length ≤ sizeLine := by rw [← rv.length]; exact hz
      exact sortedT (k := keyAt s.heap) hl hz' (fun v hv => ((pairs_vals I rl rv).1 v hv).1) (fin rl rv hz' hg)
end
end Dl
namespace Dl
open PySem L2
variable [TabN]
theorem Yld.ex {K : PySem.W.Frag} {A A' : Addr → Prop} {H H' : Hp} {J : It} {ds : List D} (y : Yld K A H J ds) (e : Ex H H') (ha : ∀ a, A' a → A a ∨ H a = none) : Yld K A' H' J ds := fun A2 H2 k h1 h2 i =>
  y A2 H2 ⟨fun a o q n t => k.keep a o (e a o q) (fun z => (ha a z).elim n fun z => (by rw [z] at q; cases q)) t, fun a o q im => k.imm a o (e a o q) im⟩
    (fun a z => (h1 a z).elim (ha a) fun z => .inr (e.back z)) h2 i
theorem Kp.wide {S T : Addr → Prop} {H H' : Hp} (k : Kp S H H') (h : ∀ a, S a → T a) : Kp T H H' := k.mono h
section
variable {X : Cx} {elt tg iter tg1 iter1 : Expr} {ifs ifs1 : List Expr} {scope : Scope} {own : List (Str × Nat)} {pos : Pos} {wi wi1 : WI} {g g1 : WG} {js js1 vs1 : List Nat} {t t1 : WT} {e : WE}
end
end Dl
namespace Dl
open PySem L2
variable [TabN]
structure Callee (P : Program) (w : World) (K : PySem.W.Frag) (mg : Str → Option Value) (base : Heap) (k : Nat) (x : Str) (ps : List Str) (C : WE) : Prop where
  ex : ∃ (f : Addr) (fd : FuncData), FnG P w K mg base CX0 k f fd ps (spOf K ps.length C) ∧ mg x = some (.ref f) ∧ PySem.W.keepIn K (.ref f) = true ∧ Binds K fd ps []
section
variable {X : Cx} {k : Nat} {x : Str} {ps : List Str} {C : WE} {p pos : Pos} {e : Expr} {es : List Expr} {w : WE} {ws : List WE} {i : Nat}
theorem Callee.call (c : Callee X.prog X.w X.K X.mg X.base k x ps C) (hr : Room k X.A) (hgu : X.A.guards = some []) (hg : Gl X x) (ha : MA X (e :: es) ws) (hn : ws.length = ps.length := by rfl) (hdb : (x == ("__debug__" : Str)) = false := by decide)
    (he : starEach (e :: es) X.env = (false, eval e X.env) :: starEach es X.env := by rfl) (hpl : (backTo pos (starEach es X.env)).any (·.1) = false := by rfl) : ME X (.Call (.Name x p) (e :: es) [] pos) (wCall C ws) := by
  obtain ⟨f, fd, F, hm, hk, hb⟩ := c.ex
  exact me_call (E := E0) F hr hgu hg hm hk hb (fun _ _ _ _ _ _ _ h => h.elim) ha hn hdb he hpl
theorem Callee.callP (c : Callee X.prog X.w X.K X.mg X.base k x ps C) (hr : Room k X.A) (hgu : X.A.guards = some []) (hg : Gl X x) (h0 : PE X e (tVar i)) (ha : MA X es ws) (hn : ws.length + 1 = ps.length := by rfl) (hdb : (x == ("__debug__" : Str)) = false := by decide)
    (he : starEach (e :: es) X.env = (false, eval e X.env) :: starEach es X.env := by rfl) (hpl : (backTo pos (starEach es X.env)).any (·.1) = false := by rfl) : ME X (.Call (.Name x p) (e :: es) [] pos) (wCallP C i ws) := by
  obtain ⟨f, fd, F, hm, hk, hb⟩ := c.ex
  exact me_callP (E := E0) F hr hgu hg hm hk hb (fun _ _ _ _ _ _ _ h => h.elim) h0 ha hn hdb he hpl
theorem Callee.callN (c : Callee X.prog X.w X.K X.mg X.base k x ps C) (hr : Room k X.A) (hgu : X.A.guards = some []) (hg : Gl X x) (h0 : ME X e w) (hn : 1 = ps.length := by rfl) (hdb : (x == ("__debug__" : Str)) = false := by decide)
    (he : starEach [e] X.env = (false, eval e X.env) :: starEach [] X.env := by rfl) (hpl : (backTo pos (starEach [] X.env)).any (·.1) = false := by rfl) : ME X (.Call (.Name x p) [e] [] pos) (wCallN C w) := by
  obtain ⟨f, fd, F, hm, hk, hb⟩ := c.ex
  rw [← hn] at F
  exact me_callN (E := E0) F hr hgu hg hm hk hb (fun _ _ _ _ _ _ _ h => h.elim) h0 hdb he hpl
end
structure GlobD (K : PySem.W.Frag) (mg : Str → Option Value) (x : Str) (d : D) : Prop where
  ex : ∃ (u : Value) (v : V), mg x = some u ∧ RelV v u ∧ ∀ A H, RepV K A H v d
theorem GlobD.int {K : PySem.W.Frag} {mg : Str → Option Value} {x : Str} {i : Int} {t : Tok} (h : mg x = some (.int i t)) : GlobD K mg x (.int i) := ⟨_, .int i, h, ⟨t, rfl⟩, fun _ _ => .int i⟩
end Dl
namespace Dl
open PySem L2
variable [TabN]
mutual
inductive RdN (h : Heap) : Value → PyData → Prop
  | non : RdN h .none .none
  | bl (b : Bool) : RdN h (.bool b) (.bool b)
  | int (i : Int) (t : Tok) : i.natAbs.log2 < 1920 → RdN h (.int i t) (.int i)
  | str (x : Str) (t : Tok) : (reprText x).length ≤ sizeLine → RdN h (.str x t) (.str x)
  | lst {a : Addr} {o : Obj} {vs : Array Value} {n : Nat} {xs : List PyData} : h.get? a = some o → o.cls = .type "list" → o.data = .seq vs n → RdNs h vs.toList xs → RdN h (.ref a) (.list xs)
  | tup {a : Addr} {o : Obj} {vs : Array Value} {n : Nat} {xs : List PyData} : h.get? a = some o → o.cls = .type "tuple" → o.data = .seq vs n → RdNs h vs.toList xs → RdN h (.ref a) (.tuple xs)
  | dct {a : Addr} {o : Obj} {es : Array DictEntry} {n : Nat} {kvs : List (PyData × PyData)} : (a == sysModules) = false → h.get? a = some o → o.cls = .type "dict" → o.data = .dict es n → RdNs h (es.toList.map (·.key)) (kvs.map (·.1)) →
      RdNs h (es.toList.map (·.val)) (kvs.map (·.2)) → RdN h (.ref a) (.dict kvs)
inductive RdNs (h : Heap) : List Value → List PyData → Prop
  | nil : RdNs h [] []
  | cons {v : Value} {vs : List Value} {d : PyData} {ds : List PyData} : RdN h v d → RdNs h vs ds → RdNs h (v :: vs) (d :: ds)
end
structure Tells (P : Program) (w : World) (h : Heap) (v : Value) (d : PyData) : Prop where
  rd : ∃ as, Reads h v d as
  sh : ∃ bs, ReadAtMost h d.depth bs ∧ ReprK P w bs h d.depth v d.shown
structure TellsAll (P : Program) (w : World) (h : Heap) (vs : List Value) (ds : List PyData) : Prop where
  rd : ∃ as, ReadsAll h vs ds as
  sh : ∃ bs, ReadAtMost h (PyData.depthAll ds) bs ∧ ReprAllK P w bs h (PyData.depthAll ds) vs (PyData.shownAll ds)
section
variable {P : Program} {w : World} {h : Heap}
theorem Tells.leaf {v : Value} {d : PyData} {as : List Addr} (r : Reads h v d as) (e : ReprIs P w v d.shown) : Tells P w h v d := ⟨⟨_, r⟩, [], fun _ z => (nomatch z), .of_is e _ _ _⟩
theorem tells_list {a : Addr} {o : Obj} {vs : Array Value} {n : Nat} {xs : List PyData} (h1 : h.get? a = some o) (h2 : o.cls = .type "list") (h3 : o.data = .seq vs n) (T : TellsAll P w h vs.toList xs) : Tells P w h (.ref a) (.list xs) := by
  obtain ⟨⟨as, r4⟩, bs, hb, hk⟩ := T
  have r : Reads h (.ref a) (.list xs) (a :: as) := .list h1 h2 h3 r4
  have dp : (PyData.list xs).depth = PyData.depthAll xs + 1 := rfl
  have na : a ∉ bs := not_mem_of_deeper r (Nat.lt_of_lt_of_eq (Nat.lt_succ_self _) dp.symm) hb
  refine ⟨⟨_, r⟩, a :: bs, ReadAtMost.cons r (Nat.le_of_lt (Nat.lt_of_lt_of_eq (Nat.lt_succ_self _) dp.symm)) hb, ?_⟩
  show ReprK P w (a :: bs) h (PyData.depthAll xs + 1) (.ref a) (listText (PyData.shownAll xs))
  match vs, h3, r4, hk with
  | ⟨[]⟩, h3, r4, hk =>
    have r5 : ReadsAll h [] xs as := r4
    cases r5
    have e : listText (PyData.shownAll []) = ("[]" : Str) := listText_nil
    rw [e]
    exact ReprK.listEmpty h1 h2 h3
  | ⟨x :: l⟩, h3, r4, hk => exact ReprK.list h1 h2 h3 na (by have := hk.length_eq; simpa using this) fun i y e => hk.item i y (by simpa using e)
theorem tells_tup {a : Addr} {o : Obj} {vs : Array Value} {n : Nat} {xs : List PyData} (h1 : h.get? a = some o) (h2 : o.cls = .type "tuple") (h3 : o.data = .seq vs n) (T : TellsAll P w h vs.toList xs) : Tells P w h (.ref a) (.tuple xs) := by
  obtain ⟨⟨as, r4⟩, bs, hb, hk⟩ := T
  have r : Reads h (.ref a) (.tuple xs) as := .tuple h1 h2 h3 r4
  have dp : (PyData.tuple xs).depth = PyData.depthAll xs + 1 := rfl
  have na : a ∉ bs := not_mem_of_deeper r (Nat.lt_of_lt_of_eq (Nat.lt_succ_self _) dp.symm) hb
  exact ⟨⟨_, r⟩, a :: bs, ReadAtMost.cons r (Nat.le_of_lt (Nat.lt_of_lt_of_eq (Nat.lt_succ_self _) dp.symm)) hb, ReprK.tuple h1 h2 h3 na hk⟩
theorem entries {es : Array DictEntry} {kvs : List (PyData × PyData)} {b1 b2 : List Addr} (k1 : ReprAllK P w b1 h (PyData.depthAll (kvs.map (·.1))) (es.toList.map (·.key)) (PyData.shownAll (kvs.map (·.1))))
    (k2 : ReprAllK P w b2 h (PyData.depthAll (kvs.map (·.2))) (es.toList.map (·.val)) (PyData.shownAll (kvs.map (·.2)))) : ReprEntriesK P w (b1 ++ b2) h (PyData.depthKv kvs) es.toList (PyData.shownKv kvs) := by
  rw [PyData.shownKv_eq]
  exact ReprEntriesK.of_two _ _ _ (k1.more_le (fun b z => List.mem_append_left _ z) (PyData.depthAll_keys_le kvs)) (k2.more_le (fun b z => List.mem_append_right _ z) (PyData.depthAll_vals_le kvs))
theorem dict_parts {a : Addr} {o : Obj} {es : Array DictEntry} {n : Nat} {kvs : List (PyData × PyData)} (h1 : h.get? a = some o) (h2 : o.cls = .type "dict") (h3 : o.data = .dict es n) (T1 : TellsAll P w h (es.toList.map (·.key)) (kvs.map (·.1)))
    (T2 : TellsAll P w h (es.toList.map (·.val)) (kvs.map (·.2))) : ∃ (as bs : List Addr), Reads h (.ref a) (.dict kvs) as ∧ ReadAtMost h (PyData.depthKv kvs) bs ∧ a ∉ bs ∧ ReprEntriesK P w bs h (PyData.depthKv kvs) es.toList (PyData.shownKv kvs) := by
  obtain ⟨⟨a1, r1⟩, b1, hb1, k1⟩ := T1
  obtain ⟨⟨a2, r2⟩, b2, hb2, k2⟩ := T2
  have r : Reads h (.ref a) (.dict kvs) (a :: a1 ++ a2) := .dict h1 h2 h3 r1 r2
  have hb : ReadAtMost h (PyData.depthKv kvs) (b1 ++ b2) := (hb1.mono (PyData.depthAll_keys_le kvs)).append (hb2.mono (PyData.depthAll_vals_le kvs))
  have dp : (PyData.dict kvs).depth = PyData.depthKv kvs + 1 := rfl
  exact ⟨_, b1 ++ b2, r, hb, not_mem_of_deeper r (Nat.lt_of_lt_of_eq (Nat.lt_succ_self _) dp.symm) hb, entries k1 k2⟩
mutual
theorem RdN.tells : ∀ {v : Value} {d : PyData}, RdN h v d → Tells P w h v d
  | _, _, .non => .leaf .none ReprIs.none
  | _, _, .bl b => .leaf (.bool b) (ReprIs.bool b)
  | _, _, .int i t e => .leaf (.int i t) (ReprIs.int t e)
  | _, _, .str x t e => .leaf (.str x t) (ReprIs.str x t e)
  | _, _, .lst h1 h2 h3 h4 => tells_list h1 h2 h3 (RdNs.tells h4)
  | _, _, .tup h1 h2 h3 h4 => tells_tup h1 h2 h3 (RdNs.tells h4)
  | _, _, .dct hs h1 h2 h3 h4 h5 => by
    obtain ⟨as, bs, r, hb, na, en⟩ := dict_parts (P := P) (w := w) h1 h2 h3 (RdNs.tells h4) (RdNs.tells h5)
    exact ⟨⟨_, r⟩, _, ReadAtMost.cons r (Nat.le_succ _) hb, ReprK.dict h1 h2 h3 hs na en⟩
theorem RdNs.tells : ∀ {vs : List Value} {ds : List PyData}, RdNs h vs ds → TellsAll P w h vs ds
  | _, _, .nil => ⟨⟨_, .nil⟩, [], fun _ z => (nomatch z), .nil⟩
  | _, _, .cons (d := d) (ds := ds) q qs => by
    obtain ⟨⟨a1, r1⟩, b1, hb1, k1⟩ : Tells P w h _ d := RdN.tells q
    obtain ⟨⟨a2, r2⟩, b2, hb2, k2⟩ : TellsAll P w h _ ds := RdNs.tells qs
    have l1 : d.depth ≤ PyData.depthAll (d :: ds) := Nat.le_max_left _ _
    have l2 : PyData.depthAll ds ≤ PyData.depthAll (d :: ds) := Nat.le_max_right _ _
    exact ⟨⟨_, .cons r1 r2⟩, b1 ++ b2, (hb1.mono l1).append (hb2.mono l2), .cons ((k1.more fun b z => List.mem_append_left _ z).level_le l1) (k2.more_le (fun b z => List.mem_append_right _ z) l2)⟩
end
theorem RdN.repr {A : Around} {E : Value → Shared → Prop} {s : Shared} {Q : Value → Shared → Prop} {v : Value} {d : PyData} (q : RdN s.heap v d) (hg : A.guards = some []) (hu : A.units + (d.depth + 1) < cLine) (hz : d.shown.length ≤ sizeLine)
    (hQ : ∀ h' t tk, (∀ b o, s.heap.get? b = some o → h'.get? b = some o) → Q (.str d.shown t) { s with heap := h', toks := tk }) : wpAny (model P w) A (call (.builtin "repr") [v]) Q E s := by
  have hQ' : ∀ h' t tk, (∀ b o, s.heap.get? b = some o → h'.get? b = some o) → ∃ x u, Value.str d.shown t = .str x u ∧ Q (.str d.shown t) { s with heap := h', toks := tk } := fun h' t tk k => ⟨_, _, rfl, hQ h' t tk k⟩
  cases q with
  | non => exact PySem.P.repr_of_none (hQ s.heap _ _ fun _ _ e => e)
  | bl b => exact PySem.P.repr_of_bool (hQ s.heap _ _ fun _ _ e => e)
  | int i t e => exact PySem.P.repr_of_int e (hQ s.heap _ _ fun _ _ e => e)
  | str x t e => exact PySem.P.repr_of_str (hQ s.heap _ _ fun _ _ e => e) e
  | @lst a o vs n xs h1 h2 h3 h4 =>
    obtain ⟨⟨as, r4⟩, bs, hb, hk⟩ := RdNs.tells (P := P) (w := w) h4
    have r : Reads s.heap (.ref a) (.list xs) (a :: as) := .list h1 h2 h3 r4
    have na : a ∉ bs := not_mem_of_deeper r (Nat.lt_succ_self _) hb
    have hu' : A.units + (PyData.depthAll xs + 1 + 1) < cLine := hu
    have hu2 : A.in1.units + (PyData.depthAll xs + 1) < cLine := show A.units + 1 + (PyData.depthAll xs + 1) < cLine by omega
    refine call_repr_slot (by omega) ⟨o, h1, h2⟩ F.slot_list_repr.toG ?_
    match vs, h3, r4, hk with
    | ⟨[]⟩, h3, r4, hk =>
      have r5 : ReadsAll s.heap [] xs as := r4
      cases r5
      have e : PyData.shown (.list []) = ("[]" : Str) := listText_nil
      rw [e] at hQ'
      exact call_list_repr_empty ⟨o, h1, h2⟩ h1 h3 (hQ' s.heap _ _ fun _ _ e => e)
    | ⟨x :: l⟩, h3, r4, hk => exact call_list_reprK h1 h2 h3 na (by have := hk.length_eq; simpa using this) (fun i y e => hk.item i y (by simpa using e)) hg (fun b _ => Clear.nil b) hu2 (fun _ _ e => e) hQ' hz
  | @tup a o vs n xs h1 h2 h3 h4 =>
    obtain ⟨⟨as, r4⟩, bs, hb, hk⟩ := RdNs.tells (P := P) (w := w) h4
    have r : Reads s.heap (.ref a) (.tuple xs) as := .tuple h1 h2 h3 r4
    have na : a ∉ bs := not_mem_of_deeper r (Nat.lt_succ_self _) hb
    have hu' : A.units + (PyData.depthAll xs + 1 + 1) < cLine := hu
    exact call_repr_slot (by omega) ⟨o, h1, h2⟩ F.slot_tuple_repr (call_tuple_reprK h1 h2 h3 na hk hg (fun b _ => Clear.nil b) (show A.units + 1 + (PyData.depthAll xs + 1) < cLine by omega) (fun _ _ e => e) hQ' hz)
  | @dct a o es n kvs hs h1 h2 h3 h4 h5 =>
    obtain ⟨as, bs, r, hb, na, en⟩ := dict_parts (P := P) (w := w) h1 h2 h3 (RdNs.tells h4) (RdNs.tells h5)
    have hu' : A.units + (PyData.depthKv kvs + 1 + 1) < cLine := hu
    exact call_repr_slot (by omega) ⟨o, h1, h2⟩ F.slot_dict_repr (call_dict_reprK h1 h2 h3 hs na en hg (fun b _ => Clear.nil b) (show A.units + 1 + (PyData.depthKv kvs + 1) < cLine by omega) (fun _ _ e => e) hQ' hz)
end
end Dl
namespace Dl
open PySem L2
variable [TabN]
def keyP : Key → PyData
  | .inl i => .int i
  | .inr x => .str x
theorem pyK_keys : ∀ kvs : List (Key × D), (pyK kvs).map (·.1) = kvs.map fun p => keyP p.1
  | [] => rfl
  | (k, d) :: r => by
    show _ :: (pyK r).map (·.1) = _ :: r.map fun p => keyP p.1
    rw [pyK_keys r]
    cases k <;> rfl
theorem pyK_vals : ∀ kvs : List (Key × D), (pyK kvs).map (·.2) = pyL (kvs.map (·.2))
  | [] => rfl
  | (k, d) :: r => by
    show pyD d :: (pyK r).map (·.2) = pyD d :: pyL (r.map (·.2))
    rw [pyK_vals r]
def keyFine : Key → Bool
  | .inl i => decide (i.natAbs < 2 ^ 250)
  | .inr x => x.cps.toList.all fun c => decide (c < 16 ^ 8)
mutual
/-- data whose text can be told -/
def showD : D → Bool
  | .tup ds => showL ds
  | .lst ds => showL ds
  | .dct kvs => showK kvs
  | .raw _ => false
  | .arg _ => false
  | .tix _ => false
  | .obj _ _ => false
  | .exc _ _ _ => false
  | .fn _ _ _ _ _ => false
  | .int i => decide (i.natAbs < 2 ^ 250)
  | .str x => x.cps.toList.all fun c => decide (c < 16 ^ 8)
  | _ => true
def showL : List D → Bool
  | [] => true
  | d :: ds => showD d && showL ds
def showK : List (Key × D) → Bool
  | [] => true
  | (k, d) :: r => keyFine k && (showD d && showK r)
end
theorem int_log {i : Int} (h : i.natAbs < 2 ^ 250) : i.natAbs.log2 < 1920 := by
  by_cases h0 : i.natAbs = 0
  · rw [h0]; decide
  · exact Nat.lt_of_lt_of_le ((Nat.log2_lt h0).mpr h) (by decide)
def ndKey : Key → Nat
  | .inl _ => 1
  | .inr x => 1 + x.cps.size
mutual
/-- how many parts -/
def ndD : D → Nat
  | .str x => 1 + x.cps.size
  | .tup ds => 1 + ndL ds
  | .lst ds => 1 + ndL ds
  | .dct kvs => 1 + ndK kvs
  | _ => 1
def ndL : List D → Nat
  | [] => 0
  | d :: ds => ndD d + ndL ds
def ndK : List (Key × D) → Nat
  | [] => 0
  | (k, d) :: r => ndKey k + ndD d + ndK r
end
theorem int_len {i : Int} (h : i.natAbs < 2 ^ 250) : (PyData.shown (.int i)).length ≤ 252 := by
  have e : PyData.shown (.int i) = Str.ofString (toString i) := rfl
  have l : i.natAbs.log2 < 251 := by
    by_cases h0 : i.natAbs = 0
    · rw [h0]; decide
    · exact Nat.lt_of_lt_of_le ((Nat.log2_lt h0).mpr h) (by decide)
  have := int_text_length_le (k := 251) (by decide) l
  rw [e, ofString_length]
  omega
theorem str_len {x : Str} (h : (x.cps.toList.all fun c => decide (c < 16 ^ 8)) = true) : (PyData.shown (.str x)).length ≤ 10 * x.cps.size + 2 :=
  PySem.StrLaws.reprText_len x fun c hc => of_decide_eq_true (List.all_eq_true.mp h c hc)
theorem key_len {k : Key} (h : keyFine k = true) : (keyP k).shown.length + 2 ≤ 300 * ndKey k := by
  cases k with
  | inl i =>
    have := int_len (of_decide_eq_true h)
    show (PyData.shown (.int i)).length + 2 ≤ 300 * 1
    omega
  | inr x =>
    have := str_len (x := x) h
    show (PyData.shown (.str x)).length + 2 ≤ 300 * (1 + x.cps.size)
    omega
mutual
theorem shown_nd : ∀ {d : D}, showD d = true → (pyD d).shown.length + 2 ≤ 300 * ndD d
  | .non, _ => by show 4 + 2 ≤ 300 * 1; decide
  | .bl b, _ => by cases b <;> (show _ ≤ 300 * 1; decide)
  | .int i, h => by
    have := int_len (of_decide_eq_true h)
    show (PyData.shown (.int i)).length + 2 ≤ 300 * 1
    omega
  | .str x, h => by
    have := str_len (x := x) h
    show (PyData.shown (.str x)).length + 2 ≤ 300 * (1 + x.cps.size)
    omega
  | .tup ds, h => by
    have h1 := shown_ndL (ds := ds) (by simpa [showD] using h)
    have h2 := tupleText_len_le (PyData.shownAll (pyL ds))
    show (tupleText (PyData.shownAll (pyL ds))).length + 2 ≤ 300 * (1 + ndL ds)
    omega
  | .lst ds, h => by
    have h1 := shown_ndL (ds := ds) (by simpa [showD] using h)
    have h2 := listText_len_le (PyData.shownAll (pyL ds))
    show (listText (PyData.shownAll (pyL ds))).length + 2 ≤ 300 * (1 + ndL ds)
    omega
  | .dct kds, h => by
    have h1 := shown_ndK (kds := kds) (by simpa [showD] using h)
    have h2 := dictText_len_le (PyData.shownKv (pyK kds))
    show (dictText (PyData.shownKv (pyK kds))).length + 2 ≤ 300 * (1 + ndK kds)
    omega
theorem shown_ndL : ∀ {ds : List D}, showL ds = true → ((PyData.shownAll (pyL ds)).map (·.length)).sum + 2 * (PyData.shownAll (pyL ds)).length ≤ 300 * ndL ds
  | [], _ => by decide
  | d :: ds, h => by
    unfold showL at h
    rw [Bool.and_eq_true] at h
    have h1 := shown_nd h.1
    have h2 := shown_ndL h.2
    show ((pyD d).shown.length + ((PyData.shownAll (pyL ds)).map (·.length)).sum) + 2 * ((PyData.shownAll (pyL ds)).length + 1) ≤ 300 * (ndD d + ndL ds)
    omega
theorem shown_ndK : ∀ {kds : List (Key × D)}, showK kds = true → ((PyData.shownKv (pyK kds)).map (·.length)).sum + 2 * (PyData.shownKv (pyK kds)).length ≤ 300 * ndK kds
  | [], _ => by decide
  | (k, d) :: r, h => by
    unfold showK at h
    rw [Bool.and_eq_true, Bool.and_eq_true] at h
    have h0 := key_len h.1
    have h1 := shown_nd h.2.1
    have h2 := shown_ndK h.2.2
    have ek : pyK ((k, d) :: r) = (keyP k, pyD d) :: pyK r := by cases k <;> rfl
    have e2 : ((keyP k).shown ++ ": " ++ (pyD d).shown).length = (keyP k).shown.length + 2 + (pyD d).shown.length := by
      rw [PySem.strLen_append, PySem.strLen_append]; rfl
    rw [ek]
    show (((keyP k).shown ++ ": " ++ (pyD d).shown).length + ((PyData.shownKv (pyK r)).map (·.length)).sum) + 2 * ((PyData.shownKv (pyK r)).length + 1) ≤ 300 * (ndKey k + ndD d + ndK r)
    omega
end
theorem reprText_fits {x : Str} (h : (x.cps.toList.all fun c => decide (c < 16 ^ 8)) = true) (hl : x.cps.size ≤ 1000000) : (reprText x).length ≤ sizeLine := by
  have := str_len (x := x) h
  have e : (PyData.shown (.str x)) = reprText x := rfl
  rw [e] at this
  rw [PySem.sizeLine_eq]
  omega
def reprOk (d : D) : Prop := showD d = true ∧ ndD d ≤ 50000 ∧ (pyD d).depth ≤ 60
theorem reprOk.fits {d : D} (h : reprOk d) : (pyD d).shown.length ≤ sizeLine := by
  have := shown_nd h.1
  have h2 := h.2.1
  rw [PySem.sizeLine_eq]
  omega
section
variable {X : Cx} {pins : List (Addr × Obj)} {σ : L2.St} {H : Hp} {s : Shared} {A : Addr → Prop}
theorem key_rdn {h : Heap} {k : Key} {v : Value} (e : keyIs k v = true) (f : keyFine k = true) (n : ndKey k ≤ 50000) : RdN h v (keyP k) := by
  rcases keyIs_shape e with ⟨i, t, rfl, rfl⟩ | ⟨x, t, rfl, rfl⟩
  · exact .int i t (int_log (of_decide_eq_true f))
  · exact .str x t (reprText_fits f (by have : 1 + x.cps.size ≤ 50000 := n; omega))
set_option maxHeartbeats 2000000 in
mutual
theorem RepV.rdn (I : Inv X pins σ H s) : ∀ {d : D} {v : V} {u : Value}, showD d = true → ndD d ≤ 50000 → RepV X.K A H v d → RelV v u → RdN s.heap u (pyD d)
  | .non, _, _, _, _, .non, r => by cases r; exact .non
  | .bl b, _, _, _, _, .bl _, r => by cases r; exact .bl b
  | .int i, _, _, h, _, .int _, r => by obtain ⟨t, rfl⟩ := r; exact .int i t (int_log (of_decide_eq_true h))
  | .str x, _, _, h, n, .str _, r => by obtain ⟨t, rfl⟩ := r; exact .str x t (reprText_fits h (by have : 1 + x.cps.size ≤ 50000 := n; omega))
  | .tup ds, _, _, h, n, .tup hs q, r => by
    cases r
    obtain ⟨its, rv, ⟨o, ho, hc, m, hd⟩, _⟩ := I.tuple hs
    exact .tup ho hc hd (RepL.rdn I (by simpa [showD] using h) (by have : 1 + ndL ds ≤ 50000 := n; omega) q rv)
  | .lst ds, _, _, h, n, .lst hs _ q, r => by
    cases r
    obtain ⟨its, rv, ⟨o, m, ho, hc, _, hd⟩, _⟩ := I.list (SqL.of hs)
    exact .lst ho hc hd (RepL.rdn I (by simpa [showD] using h) (by have : 1 + ndL ds ≤ 50000 := n; omega) q rv)
  | .dct kds, _, _, h, n, .dct hs _ q, r => by
    cases r
    obtain ⟨z, hd, vs, rel, o, es, ep, ho, hx, hdt, hko, hp, nd⟩ := dk_rd I.hok hs
    obtain ⟨h1, h2⟩ := RepK.rdn I (by simpa [showD] using h) (by have : 1 + ndK kds ≤ 50000 := n; omega) q rel hp
    exact .dct hd ho hx.1 hdt (kvs := pyK kds) (by rw [pyK_keys]; exact h1) (by rw [pyK_vals]; exact h2)
theorem RepL.rdn (I : Inv X pins σ H s) : ∀ {ds : List D} {vs : List V} {us : List Value}, showL ds = true → ndL ds ≤ 50000 → RepL X.K A H vs ds → Vals vs us → RdNs s.heap us (pyL ds)
  | [], _, _, _, _, .nil, r => by cases r; exact .nil
  | d :: ds, _, _, h, n, .cons q1 q2, r => by
    have h' : showD d = true ∧ showL ds = true := by simpa [showL] using h
    have n' : ndD d + ndL ds ≤ 50000 := n
    cases r with
    | cons r1 r2 => exact .cons (RepV.rdn I h'.1 (by omega) q1 r1) (RepL.rdn I h'.2 (by omega) q2 r2)
theorem RepK.rdn (I : Inv X pins σ H s) : ∀ {kds : List (Key × D)} {kvs : List (Key × V)} {vs : List (Key × Value)} {es : List DictEntry}, showK kds = true → ndK kds ≤ 50000 → RepK X.K A H kvs kds → KV kvs vs → PySem.Pairs (mixKind X.prog X.w) es vs →
    RdNs s.heap (es.map (·.key)) (kds.map fun p => keyP p.1) ∧ RdNs s.heap (es.map (·.val)) (pyL (kds.map (·.2)))
  | [], _, _, _, _, _, .nil, r, p => by
    cases r
    cases p
    exact ⟨.nil, .nil⟩
  | (k, d) :: kds, _, _, _, h, n, .cons q1 q2, r, p => by
    unfold showK at h
    rw [Bool.and_eq_true, Bool.and_eq_true] at h
    have n' : ndKey k + ndD d + ndK kds ≤ 50000 := n
    cases r with
    | cons r1 r2 =>
      cases p with
      | cons p1 p2 p3 =>
        obtain ⟨w2, w3⟩ := RepK.rdn I h.2.2 (by omega) q2 r2 p3
        rw [← r1.1] at p1
        exact ⟨.cons (key_rdn p1 h.1 (show ndKey k ≤ 50000 by omega)) w2, .cons (Eq.subst (motive := fun v => RdN s.heap v (pyD d)) p2.symm (RepV.rdn I h.2.1 (by omega) q1 r1.2)) w3⟩
end
theorem Sees.rdn (I : Inv X pins σ H s) {d : D} {v : V} {u : Value} (h : showD d = true) (n : ndD d ≤ 50000) (q : Sees X.K A H v d) (r : RelV v u) : RdN s.heap u (pyD d) := by
  match d, h, n, q with
  | .lst ds, h, n, ⟨a, xs, hv, e, q1⟩ =>
    subst hv
    cases r
    obtain ⟨its, rv, ⟨o, m, ho, hc, _, hd⟩, _⟩ := I.list (SqL.of e)
    exact .lst ho hc hd (RepL.rdn I (by simpa [showD] using h) (by have : 1 + ndL ds ≤ 50000 := n; omega) q1 rv)
  | .dct kds, h, n, ⟨a, kvs, hv, hs, q1⟩ =>
    subst hv
    cases r
    obtain ⟨z, hd, vs, rel, o, es, ep, ho, hx, hdt, hko, hp, nd⟩ := dk_rd I.hok hs
    obtain ⟨h1, h2⟩ := RepK.rdn I (by simpa [showD] using h) (by have : 1 + ndK kds ≤ 50000 := n; omega) q1 rel hp
    exact .dct hd ho hx.1 hdt (kvs := pyK kds) (by rw [pyK_keys]; exact h1) (by rw [pyK_vals]; exact h2)
  | .non, h, n, q => exact RepV.rdn I h n (show RepV X.K A H v .non from q) r
  | .bl b, h, n, q => exact RepV.rdn I h n (show RepV X.K A H v (.bl b) from q) r
  | .int b, h, n, q => exact RepV.rdn I h n (show RepV X.K A H v (.int b) from q) r
  | .str b, h, n, q => exact RepV.rdn I h n (show RepV X.K A H v (.str b) from q) r
  | .tup b, h, n, q => exact RepV.rdn I h n (show RepV X.K A H v (.tup b) from q) r
end
def gRepr : List D → (Dl.Slot → Prop) → Prop
  | [d], k => reprOk d ∧ k (.fro (.str (pyD d).shown))
  | _, _ => False
theorem cd_repr {X : Cx} (hgu : X.A.guards = some []) (hu : X.A.units + 64 < cLine) : CallD X (.builtin "repr") gRepr := callD_of fun pins s σ H vs us Q A ds k I r sl ht hg hq => by
  match ds, hg with
  | [d], ⟨h1, hk⟩ =>
    obtain ⟨v, rfl, q⟩ := seesL1 sl
    obtain ⟨u, rfl, rv⟩ := vals1 r
    refine RdN.repr (Sees.rdn I h1.1 h1.2.1 q rv) hgu (by have := h1.2.2; omega) h1.fits fun h' t tk hk' => ?_
    exact ⟨.str _, H, I.kept hk', ⟨t, rfl⟩, hq _ _ H (Ex.refl H) (newF (.str _)) hk⟩
end Dl
namespace Dl
open PySem L2
variable [TabN]
def MK (X : Cx) (kws : List Keyword) (ws : List WE) : Prop := PK X kws (taOf X.K ws)
theorem PK_weak {X : Cx} {e : List Keyword} {t t' : TA} (h : PK X e t) (k : ∀ σ H Q, t' σ H Q → t σ H Q) : PK X e t' := ⟨fun pos pins s σ H Q I q => h.run pos pins s σ H Q I (k σ H Q q)⟩
theorem mk_nil {X : Cx} : MK X [] [] := PK_weak pk_nil fun σ H Q ⟨B, ρ, Q', R, hw, hq⟩ =>
  hq [] [] ρ B H (fun _ z => z) (fun _ z => .inl z) R trivial (Sub.refl ρ) Kp.refl hw
theorem mk_cons {X : Cx} {nm : Option Str} {kpos : Pos} {e : Expr} {kws : List Keyword} {w : WE} {ws : List WE} (he : ME X e w) (hr : MK X kws ws) : MK X (⟨nm, e, kpos⟩ :: kws) (w :: ws) :=
  PK_weak (pk_cons he hr) fun σ H Q ⟨B, ρ, Q', R, hw, hq⟩ => by
    refine ⟨B, ρ, _, R, hw, fun s v ρ1 H1 post sub kp hw1 => ?_⟩
    obtain ⟨B1, b1, b1', R1, P1⟩ := post.pend
    refine ⟨B1, ρ1, _, R1, hw1, fun ss vs ρ2 B2 H2 b2 b2' R2 P2 sub2 kp2 q => ?_⟩
    refine hq (s :: ss) (v :: vs) ρ2 B2 H2 (fun a z => b2 a (b1 a z)) (fun a z => ?_) R2 ⟨P1.step R1 kp2 sub2 b2 b2', P2.start kp⟩ (sub.trans sub2) (kp.trans kp2 fun a z => sub.own a z) q
    rcases b2' a z with z | z
    · exact b1' a z
    · exact .inr (kp.back z)
def perm {α : Type} (d : α) (xs : List α) (is : List Nat) : List α := is.map fun i => xs.getD i d
structure KwB (K : PySem.W.Frag) (fd : FuncData) (ps ks : List Str) (is : List Nat) : Prop where
  to : ∀ (s : Shared) (ws : List Value), K.In s.heap → ws.length = ks.length → BindsTo s fd ⟨[], ks.zip ws⟩ (ps.zip (perm .none ws is))
  lt : ∀ i ∈ is, i < ks.length
def wCallK (C : WE) (ws : List WE) (is : List Nat) : WE := fun ρ Q => wArgs ws ρ fun ss ρ1 => frzL ρ1 ss fun ds ρ2 => ds.length = ws.length ∧ C ((perm .non ds is).map .fro) fun r _ => match r with
  | .fro d => Q (.fro d) ρ2
  | .own _ o => Q (.own false o) ρ2
  | _ => False
theorem perm_rep {K : PySem.W.Frag} {A : Addr → Prop} {H : Hp} {vs : List V} {ds : List D} (r : RepL K A H vs ds) : ∀ {is : List Nat}, (∀ i ∈ is, i < ds.length) → RepL K A H (perm .non vs is) (perm .non ds is)
  | [], _ => .nil
  | i :: is, h => by
    have hi : i < ds.length := h i (by simp)
    obtain ⟨v, e, rv⟩ := r.get (List.getElem?_eq_getElem hi)
    refine .cons ?_ (perm_rep r fun j hj => h j (List.mem_cons_of_mem _ hj))
    show RepV K A H (vs.getD i .non) (ds.getD i .non)
    rw [List.getD_eq_getElem?_getD, e, List.getD_eq_getElem?_getD, List.getElem?_eq_getElem hi]
    exact rv
theorem vals_getD : ∀ {vs : List V} {us : List Value}, Vals vs us → ∀ i, i < us.length → RelV (vs.getD i .non) (us.getD i .none)
  | _, _, .nil, i, h => absurd h (Nat.not_lt_zero i)
  | _, _, .cons a r, 0, _ => a
  | _, _, .cons a r, i + 1, h => vals_getD r i (Nat.lt_of_succ_lt_succ h)
theorem perm_vals {vs : List V} {us : List Value} (r : Vals vs us) : ∀ {is : List Nat}, (∀ i ∈ is, i < us.length) → Vals (perm .non vs is) (perm .none us is)
  | [], _ => .nil
  | i :: is, h => by
    have hi : i < us.length := h i (by simp)
    have hl := r.length
    have hi' : i < vs.length := by omega
    refine .cons ?_ (perm_vals r fun j hj => h j (List.mem_cons_of_mem _ hj))
    show RelV (vs.getD i .non) (us.getD i .none)
    exact vals_getD r i hi
theorem callK_ok {K : PySem.W.Frag} {C : WE} {B : Addr → Prop} {ρ : List Slot} {σ : L2.St} {H : Hp} {ws : List WE} {is : List Nat} {Q' : Slot → List Slot → Prop} {Q : VK} {E : XK} (hi : ∀ i ∈ is, i < ws.length) (R : Rep K B ρ σ H) (hw : wCallK C ws is ρ Q')
    (hq : ∀ s v ρ' H', Post K B ρ' σ H H' s v → Sub ρ' ρ → Kp (Own ρ σ) H H' → Q' s ρ' → Q v H') :
    taOf K ws σ H fun vs H1 => vs.length = ws.length ∧ spOf K is.length C (perm .non vs is) H1 Q E := by
  refine args_frz R hw fun ds vs ρ2 H2 R2 r sub kp ⟨hl, hC⟩ => ⟨by rw [r.length]; exact hl, ?_⟩
  have r' := perm_rep r (is := is) (fun i z => by rw [hl]; exact hi i z)
  refine ⟨by unfold perm; rw [List.length_map], Av B ρ2 σ, (perm .non ds is).map .fro, _, repL_rep (fun a z => R2.av_trk z) R2.tabs r', by rw [List.length_map, r'.length], hC, fun s v ρ' H' post _ k3 h => ?_⟩
  have ex : Kp (fun _ => False) H2 H' := k3.mono fun a z => fros_own z
  have k' : Kp (Own ρ σ) H H' := kp.trans (ex.mono fun _ z => z.elim) fun _ z => z
  match s, post, h with
  | .fro d, post, h => exact hq _ _ ρ2 H' (postF (R2.same ex fun a z => .inl z) (post.2.av fun a z => .inr z)) sub k' h
  | .own b o, ⟨a, hv, n, nb, R', q⟩, h =>
    subst hv
    refine hq _ _ ρ2 H' (postO (b := false) (kp.back n) (fun z => R2.btr a z n) (R2.same ex fun x z => z.elim .inl fun z => .inr ⟨by rw [z]; exact n, by rw [z]; exact q.trk⟩) (q.av fun x z => ?_)) sub k' h
    rcases z with z | z | z
    · exact .inr (.inl (.inl z))
    · exact .inr (.inl (.inr z))
    · exact .inr (.inr z)
structure CalleeK (P : Program) (w : World) (K : PySem.W.Frag) (mg : Str → Option Value) (base : Heap) (k : Nat) (x : Str) (ps ks : List Str) (is : List Nat) (C : WE) : Prop where
  ex : ∃ (f : Addr) (fd : FuncData), FnG P w K mg base CX0 k f fd ps (spOf K ps.length C) ∧ mg x = some (.ref f) ∧ PySem.W.keepIn K (.ref f) = true ∧ KwB K fd ps ks is
theorem CalleeK.callK {X : Cx} {k : Nat} {x : Str} {ps ks : List Str} {is : List Nat} {C : WE} {p pos : Pos} {kws : List Keyword} {ws : List WE} (c : CalleeK X.prog X.w X.K X.mg X.base k x ps ks is C) (hr : Room k X.A) (hgu : X.A.guards = some []) (hg : Gl X x) (hkw : MK X kws ws)
    (hn : ws.length = ks.length := by rfl) (hn2 : is.length = ps.length := by rfl) (hall : (backToKw pos (keywordEach kws X.env)).all (·.1.isSome) = true := by rfl) (hks : (backToKw pos (keywordEach kws X.env)).filterMap (·.1) = ks := by rfl)
    (hdb : (x == ("__debug__" : Str)) = false := by decide) (hpl : ((backTo pos (starEach [] X.env)).any (·.1) || (backToKw pos (keywordEach kws X.env)).any (·.1.isNone)) = false := by rfl) :
    ME X (.Call (.Name x p) [] kws pos) (wCallK C ws is) := by
  obtain ⟨f, fd, F, hm, hk, hb⟩ := c.ex
  rw [← hn2] at F
  have hi : ∀ i ∈ is, i < ws.length := fun i z => by rw [hn]; exact hb.lt i z
  refine ⟨fun pins s σ H Q I ⟨B, ρ, Q', R, hw, hq⟩ => ?_⟩
  refine wpAny_Call_Name_kw (ld_glob I hg hm ?_ hdb)
  refine PySem.W.callWith_KW0 (h₀ := X.base) I.ok.mod.kin hk hall (thn (hkw.run pos pins s σ H _ I (callK_ok (E := E0) hi R hw hq)) fun us s1 ⟨vs, H1, I1, r, hl, h⟩ => ⟨I1.kIn, ?_⟩) hpl
  rw [hks]
  have hul : us.length = ks.length := by rw [← r.length, hl, hn]
  have r2 := perm_vals r (is := is) (fun i z => by rw [hul]; exact hb.lt i z)
  refine wpAny_call (codeAny_mono (F.run X.A X.stack s1 H1 ⟨[], ks.zip us⟩ (perm .none us is) (perm .non vs is) Q E0 hr hgu I1.env0 (hb.to s1 us I1.kIn hul) r2 h) fun res s' hq => ?_)
  match res, hq with
  | .ok (.ret u), hq => exact I1.after hq
  | .ok .next, hq => exact hq.elim
  | .ok .brk, hq => exact hq.elim
  | .ok .cont, hq => exact hq.elim
  | .error e, hq => exact hq.elim
end Dl
namespace Dl
open PySem L2
variable [TabN]
section
variable {X : Cx} {a b c : Expr} {pos : Pos} {w1 w2 w3 : WE}
def wDct0 : WE := fun ρ Q => Q (.own false (.dct [])) ρ
theorem Rep.updD {K : PySem.W.Frag} {B : Addr → Prop} {ρ : List Slot} {σ : L2.St} {H : Hp} {a : Addr} {xs ys : List (Key × V)} (R : Rep K B ρ σ H) (hb : B a) (e : H a = some (.dK xs)) : Rep K B ρ σ (L2.upd H a (.dK ys)) := by
  have kp : Kp (fun x => x = a) H (L2.upd H a (.dK ys)) := Kp.upd rfl fun o z => by rw [e] at z; cases z; exact fun q => q
  have hs : ∀ x, x = a → Av B ρ σ x := fun x z => by rw [z]; exact .inr hb
  refine ⟨R.shp, fun i s h => ?_, fun x z => kp.trk x (R.btr x z), R.dis, kp.tab R.tabs⟩
  exact (R.slot i s h).mono kp hs (fun x z => .inl z) (fun b o y e1 e2 z => R.dis y (.inl ⟨i, b, o, by rw [h, e1], e2⟩) (by rw [z]; exact hb)) fun T y e1 e2 z => R.dis y (.inr ⟨i, T, by rw [h, e1], e2⟩) (by rw [z]; exact hb)
def wDct1 (k : Str) (w : WE) : WE := fun ρ Q => w ρ fun s ρ1 => frz ρ1 s fun d ρ2 => Q (.own false (.dct [(.inr k, d)])) ρ2
def wRev (w : WE) : WE := fun ρ Q => w ρ fun s ρ1 => match lookD ρ1 s with
  | some (.lst ds) => Q (.own false (.lst ds.reverse)) ρ1
  | _ => False
def gIsB : D → D → (Slot → Prop) → Prop
  | .bl a, .bl b, k => k (.fro (.bl (decide (a = b))))
  | _, _, _ => False
end
end Dl
namespace Dl
open PySem L2
variable [TabN]
inductive CE where
  | non | bl (b : Bool) | int (i : Int) | neg (i : Int) | pow (a b : Int) | str (x : Str) | tup (es : List CE) | lst (es : List CE) | dct0 | dct1 (k : Str) (e : CE)
mutual
def CE.d : CE → D
  | .non => .non
  | .bl b => .bl b
  | .int i => .int i
  | .neg i => .int (-i)
  | .pow a b => .int (a ^ b.toNat)
  | .str x => .str x
  | .tup es => .tup (CE.ds es)
  | .lst es => .lst (CE.ds es)
  | .dct0 => .dct []
  | .dct1 k e => .dct [(.inr k, CE.d e)]
def CE.ds : List CE → List D
  | [] => []
  | e :: es => CE.d e :: CE.ds es
end
def CE.s : CE → Slot
  | .lst es => .own false (.lst (CE.ds es))
  | .dct0 => .own false (.dct [])
  | .dct1 k e => .own false (.dct [(.inr k, CE.d e)])
  | e => .fro e.d
mutual
def CE.ok : CE → Bool
  | .pow a b => decide (0 ≤ b) && (decide (b ≤ 1000) && decide (a.natAbs < 2 ^ 64))
  | .tup es => decide (es.length ≤ 1000) && CE.oks es
  | .lst es => decide (es.length ≤ 1000) && CE.oks es
  | .dct1 _ e => CE.ok e
  | _ => true
def CE.oks : List CE → Bool
  | [] => true
  | e :: es => CE.ok e && CE.oks es
end
def CE.ss : List CE → List Slot
  | [] => []
  | e :: es => CE.s e :: CE.ss es
theorem CE.frz (e : CE) {ρ : List Slot} {k : D → List Slot → Prop} (h : k e.d ρ) : Dl.frz ρ e.s k := by cases e <;> exact h
def wK (e : CE) : WE := fun ρ Q => e.ok = true ∧ Q e.s ρ
end Dl
namespace Dl
open PySem L2
variable [TabN]
def gPop : O → List D → (O → D → Prop) → Prop
  | .lst ds, [.int i], k => ∃ (j : Nat) (d : D), (-(2 ^ 63) ≤ i ∧ i < 2 ^ 63) ∧ seqIndex? i ds.length = some j ∧ ds[j]? = some d ∧ k (.lst (ds.eraseIdx j)) d
  | _, _, _ => False
theorem RepL.erase {K : PySem.W.Frag} {A : Addr → Prop} {H : Hp} : ∀ {vs : List V} {ds : List D} (i : Nat), RepL K A H vs ds → RepL K A H (vs.eraseIdx i) (ds.eraseIdx i)
  | _, _, _, .nil => .nil
  | _, _, 0, .cons _ r => r
  | _, _, i + 1, .cons q r => .cons q (RepL.erase i r)
def wPop (i : Nat) (w : WE) : WE := wMt "list" i [w] gPop
section
variable {X : Cx}
theorem ints_rep {K : PySem.W.Frag} {A : Addr → Prop} {H : Hp} : ∀ {ns : List Int} {vs : List V}, RepL K A H vs (ns.map .int) → vs = ns.map V.int
  | [], _, .nil => rfl
  | n :: ns, _, .cons h r => by cases h; rw [ints_rep r]; rfl
theorem sees_ints {K : PySem.W.Frag} {A : Addr → Prop} {H : Hp} {v : V} {ns : List Int} (h : Sees K A H v (.lst (ns.map .int))) : ∃ a, v = .ref a ∧ SqL K H a (ns.map V.int) := by
  obtain ⟨a, xs, hv, e, r⟩ := h
  have := ints_rep r
  subst this
  exact ⟨a, hv, SqL.of e⟩
end
end Dl
namespace Dl
open PySem L2 PyProof.Rows
variable [TabN]
abbrev nS (w : World) : Obj := { cls := .type "set", dict := none, data := .set #[] 0 (.fresh 0 0 (!w.params.followText "set-order")) }
abbrev sWith (s : Shared) (h : Heap) : Shared := { s with heap := h }
section
variable {P : Program} {w : World} {A : Around} {E : Value → Shared → Prop} {s : Shared}
def SetIs (w : World) (s : Shared) (ns : List Int) (t : Shared) : Prop := ∃ h' tk c, t = { s with heap := h', toks := tk } ∧ SetR w h' s.heap.objs.size (fun j => decide (j ∈ ns)) c ∧ c ≤ ns.length ∧ ∀ b o, s.heap.get? b = some o → h'.get? b = some o
theorem val_at {its : Array Value} {ns : List Int} (hi : IntsAre its.toList ns) (hz : its.size = ns.length) (i : Nat) (v : Value) (hv : its[i]? = some v) : ∃ k t, ns[i]? = some k ∧ v = .int k t := by
  have lt : i < ns.length := by rw [← hz]; exact (Array.getElem?_eq_some_iff.mp hv).1
  obtain ⟨t, e⟩ := IntsAre.int_at hi i v (by rw [Array.getElem?_toList]; exact hv)
  refine ⟨ns[i], t, List.getElem?_eq_getElem lt, ?_⟩
  rw [List.getD_eq_getElem?_getD, List.getElem?_eq_getElem lt] at e
  exact e
set_option maxHeartbeats 3200000 in
theorem call_set_lst {l : Addr} {its : Array Value} {ns : List Int} {Q : Value → Shared → Prop} (hh : A.handled = none) (hl : s.heap.IsList l its) (hi : IntsAre its.toList ns) (hb : ns.length + 1 < scanBound)
    (hQ : ∀ t, SetIs w s ns t → Q (.ref s.heap.objs.size) t) : wpAny (model P w) A (call (.type "set") [.ref l]) Q E s := by
  have hz : its.size = ns.length := by have q := IntsAre.length hi; rw [Array.length_toList] at q; exact q
  obtain ⟨c, tl, hmro⟩ := F.called_set.mro
  have hmade := F.called_set.made
  have hsub := F.called_set.sub
  refine wpAny_call (codeAny_of_tree ?_)
  show wpAny _ _ (callAny (.type "set") _) _ _ _
  refine wpAny_pure ⟨Code.quiet_builtin _ (by decide +kernel), codeAny_builtin F.entry_type_call ?_⟩
  rw [Around.under_plain (weight_type_call_type "set" [.ref l] []) rfl]
  have h1 := F.called_set.notType
  have h2 := F.called_set.canCreate
  have hct := F.typeCall_set_1 (.ref l)
  repeat (any_goals (first | assumption | wp_step))
  refine codeAny_mono (code_set_led1 (.ref l) (E := E) (Q₁ := fun x t => x = .ref s.heap.objs.size ∧ t = sWith s (s.heap.push (nS w))) ⟨rfl, rfl⟩) fun r t hr => ?_
  match r, hr with
  | .error e, hr => exact hr
  | .ok .next, hr => exact hr.elim
  | .ok .brk, hr => exact hr.elim
  | .ok .cont, hr => exact hr.elim
  | .ok (.ret x), ⟨hx, ht⟩ =>
    subst hx; subst ht
    have hS : (s.heap.push (nS w)).get? s.heap.objs.size = some (nS w) := Heap.get?_push_size _ rfl
    have hT : Shared.TypeIs (sWith s (s.heap.push (nS w))) (.ref s.heap.objs.size) "set" := ⟨_, hS, rfl⟩
    have hli := F.called_set.init.lookup
    have hbi := F.called_set.init.bind (.ref s.heap.objs.size)
    repeat (any_goals (first | assumption | wp_step))
    refine codeAny_mono (codeAny_call_builtin (R := wants (fun r t => r = .none ∧ SetIs w s ns t) E) F.called_set.init.plain F.entry_set_init (check_set_init_1 hT ?_)) fun r2 t2 hr2 => ?_
    · obtain ⟨ol, hol, hcl, nl, hdl⟩ := hl
      obtain ⟨ocls, odict, odata, oslots⟩ := ol
      simp only at hcl hdl
      subst hcl; subst hdl
      have hl1 : (s.heap.push (nS w)).IsList l its := ⟨_, Heap.get?_push_of_some _ hol, rfl, nl, rfl⟩
      have ho2 : (s.heap.push (nS w)).get? l = some { cls := .type "list", dict := odict, data := .seq its nl, slots := oslots } := Heap.get?_push_of_some _ hol
      have hsls := F.sub_list_set
      have hslf := F.sub_list_frozenset
      have hne : (Value.type "list" == Value.type "dict") = false := by decide
      unfold Builtin.«set.__init__» noKeywords Builtin.Frozenset.updateFrom
      generalize hPI : pyIter = PI
      wp_walk
      subst hPI
      refine wpAny_pyIter_list hl1 ?_
      refine wpAny_bind (wpAny_runValue ?_)
      have hlS : l < s.heap.objs.size := Heap.lt_size hol
      have hh3 : A.in1.in1.in1.handled = none := by simp [hh]
      have z1 : (s.heap.push (nS w)).objs.size = s.heap.objs.size + 1 := Heap.size_push ..
      have nI : l ≠ (s.heap.push (nS w)).objs.size := by rw [z1]; exact Nat.ne_of_lt (Nat.lt_succ_of_lt hlS)
      have nF : s.heap.objs.size ∉ [(s.heap.push (nS w)).objs.size, l] := by
        rw [z1]
        simp only [List.mem_cons, List.not_mem_nil, or_false, not_or]
        exact ⟨Nat.ne_of_lt (Nat.lt_succ_self _), Nat.ne_of_gt hlS⟩
      refine set_update_ints ((Walks.list hh3 _ l nI its).toS) s.heap.objs.size nF ns hz hb (val_at hi hz) (its.size - 0) 0 _ (by omega) (Nat.zero_le _) ⟨⟨_, Heap.get?_push_size _ rfl, rfl, rfl⟩, hl1.push _⟩ ⟨0, Nat.le_refl 0, setR_new_at (Heap.get?_push_of_some _ hS)⟩ ?_
      intro t' c' hm hc' hS'
      obtain ⟨h', g2, d', tk', os'⟩ := t'
      have eg : g2 = s.gens := hm.gens
      have ed : d' = s.drawn := hm.drawn
      have eo : os' = s.os := hm.os
      subst eg; subst ed; subst eo
      show wpAny _ _ _ _ _ _
      refine wpAny_pure ?_
      show wpAny _ _ (ret Value.none) _ _ _
      refine wpAny_pure ⟨rfl, h', tk', c', rfl, hS', by rw [hz] at hc'; exact hc', fun b o e => ?_⟩
      have b0 : b < s.heap.objs.size := Heap.lt_size e
      refine hm.heap b o ?_ (Heap.get?_push_of_some _ (Heap.get?_push_of_some _ e))
      simp only [List.mem_cons, List.not_mem_nil, or_false, not_or]
      rw [z1]
      exact ⟨Nat.ne_of_lt b0, Nat.ne_of_lt (Nat.lt_succ_of_lt b0)⟩
    · match r2, hr2 with
      | .error e, hr2 => exact hr2
      | .ok .next, hr2 => exact hr2.elim
      | .ok .brk, hr2 => exact hr2.elim
      | .ok .cont, hr2 => exact hr2.elim
      | .ok (.ret y), ⟨hy, h', tk, c', e, hS', hc', hk'⟩ =>
        subst hy; subst e
        repeat (any_goals (first | assumption | wp_step))
        exact hQ _ ⟨h', tk, c', rfl, hS', hc', hk'⟩
end
end Dl
namespace Dl
open PySem L2 PyProof.Rows
variable [TabN]
section
variable {X : Cx} {e : Expr} {w1 : WE}
def rSetL (K : PySem.W.Frag) (w : World) : List V → Hp → VK → Prop := fun xs H Q => ∃ (l : Addr) (ns : List Int), xs = [.ref l] ∧ SqL K H l (ns.map V.int) ∧ ns.length ≤ 1000 ∧ ∀ p n, H p = none → n ≤ ns.length → Q (.ref p) (L2.upd H p (SetO w p (fun j => decide (j ∈ ns)) n))
theorem cr_setL (hc : X.calm = true) : CallR X (.type "set") (rSetL X.K X.w) := by
  intro pins s σ H xs us Q I r h
  obtain ⟨l, ns, rfl, hs, hn, q⟩ := h
  rw [Vals.ref1 r]
  obtain ⟨its, rv, ⟨o, n, ho, hcl, hdn, hd⟩, hlen⟩ := I.list hs
  have hi : IntsAre its ns := ints_of_vals rv
  refine call_set_lst (ns := ns) (I.ok.hd hc) ⟨o, ho, hcl, n, hd⟩ hi (by unfold scanBound; omega) fun t ht => ?_
  obtain ⟨h', tk, c, rfl, hS, hcn, hk⟩ := ht
  have hn0 : H s.heap.objs.size = none := I.hok.fresh (Nat.le_refl _)
  exact ⟨.ref s.heap.objs.size, _, I.laid hk (Nat.le_refl _) (setO_new hS), rfl, q _ c hn0 hcn⟩
def wSortSet (w : WE) : WE := fun ρ Q => w ρ fun s ρ1 => match lookD ρ1 s with
  | some (.lst ds) => ∃ ns : List Int, ds = ns.map .int ∧ ns.length < 64 ∧ ∀ ms : List Int, ms.Pairwise (· < ·) → (∀ x, x ∈ ms ↔ x ∈ ns) → ms.length ≤ ns.length → Q (.own false (.lst (ms.map .int))) ρ1
  | _ => False
theorem me_sortSet {p1 p2 q1 q2 : Pos} (hc : X.calm = true) (hg1 : Gl X "sorted") (hm1 : X.mg "sorted" = none) (hg2 : Gl X "set") (hm2 : X.mg "set" = none) (he : ME X e w1)
    (hs : starEach [e] X.env = (false, eval e X.env) :: starEach [] X.env := by rfl) (hs2 : starEach [.Call (.Name "set" p2) [e] [] q2] X.env = (false, eval (.Call (.Name "set" p2) [e] [] q2) X.env) :: starEach [] X.env := by rfl) :
    ME X (.Call (.Name "sorted" p1) [.Call (.Name "set" p2) [e] [] q2] [] q1) (wSortSet w1) :=
  me_of (pe_callB (cr_sortedSet hc) hg1 hm1 (by decide +kernel) (pa_cons (pe_callTy (cr_setL hc) hg2 hm2 (by decide +kernel) (pa_cons he pa_nil hs) (by decide) (by decide) hs (by rfl)) pa_nil hs2) (by decide) (by decide) hs2 (by rfl)) fun B ρ σ H Q' Q R hw hq => by
    refine ⟨B, ρ, _, R, hw, fun s v ρ1 H1 post sub kp q => ?_⟩
    obtain ⟨B1, b1, b1', R2, P1⟩ := post.pend
    cases e : lookD ρ1 s with
    | none => rw [e] at q; exact q.elim
    | some d =>
      rw [e] at q
      cases d with
      | lst ds =>
        obtain ⟨ns, rfl, hn, q⟩ := q
        obtain ⟨l, rfl, hl⟩ := sees_ints (P1.sees R2 e)
        refine ⟨l, ns, rfl, hl, by omega, fun p n np hnn => ?_⟩
        refine ⟨p, _, n, rfl, upd_same, by omega, fun ms p2 h1 h2 h3 np2 => ?_⟩
        have np2' : p2 ≠ p := fun z => by rw [z, upd_same] at np2; cases np2
        rw [upd_ne np2'] at np2
        have ex1 : Ex H1 (L2.upd H1 p (SetO X.w p (fun j => decide (j ∈ ns)) n)) := Ex.new np
        have ex2 : Ex (L2.upd H1 p (SetO X.w p (fun j => decide (j ∈ ns)) n)) (L2.upd (L2.upd H1 p (SetO X.w p (fun j => decide (j ∈ ns)) n)) p2 (.lst (ms.map V.int))) := Ex.new (by rw [upd_ne np2']; exact np2)
        have ex := ex1.trans ex2
        have nw : New X.K (Av B1 ρ1 σ) H1 (L2.upd (L2.upd H1 p (SetO X.w p (fun j => decide (j ∈ ns)) n)) p2 (.lst (ms.map V.int))) (.own false (.lst (ms.map .int))) (.ref p2) := ⟨p2, rfl, np2, _, upd_same, RepL.ints ms⟩
        exact hq _ _ ρ1 _ (nw.post R2 b1 kp ex) sub (kp.trans ex.kp fun _ z => z) (q ms h1 (fun x => by rw [h2 x, decide_eq_true_eq]) (by omega))
      | _ => exact q.elim
end
end Dl
namespace Dl
open PySem L2
variable [TabN]
abbrev tI (t : Addr) : Obj := { cls := .type "tuple_iterator", data := .fields #[.ref t, .int 0 0] }
section
variable {P : Program} {w : World} {A : Around} {E : Value → Shared → Prop} {s : Shared}
end
def wEnum2 (ws : List WE) : WI := fun ρ Q => wArgs ws ρ fun ss ρ' => frzL ρ' ss fun ds ρ2 => match ds with
  | [.lst xs] => Q (enumD xs) ρ2
  | [.tup xs] => Q (enumD xs) ρ2
  | _ => False
end Dl
namespace Dl
open PySem L2
variable [TabN]
def ND : List Slot → List V → Prop
  | s :: ss, v :: vs => (∀ b o, s = .own b o → ∀ (j : Nat) (b' : Bool) (o' : O) (u : V), ss[j]? = some (.own b' o') → vs[j]? = some u → v ≠ u) ∧ ND ss vs
  | _, _ => True
def taOf2 (K : PySem.W.Frag) (ws : List WE) : TA := fun σ H Q => ∃ (B : Addr → Prop) (ρ : List Slot) (Q' : List Slot → List Slot → Prop), Rep K B ρ σ H ∧ wArgs ws ρ Q' ∧
  ∀ ss vs ρ' (B' : Addr → Prop) H', (∀ a, B a → B' a) → (∀ a, B' a → B a ∨ H a = none) → Rep K B' ρ' σ H' → PendL K H B' ρ' σ H' ss vs → ND ss vs → Sub ρ' ρ → Kp (Own ρ σ) H H' → Q' ss ρ' → Q vs H'
def MA2 (X : Cx) (es : List Expr) (ws : List WE) : Prop := PA X es (taOf2 X.K ws)
theorem ma2_nil {X : Cx} : MA2 X [] [] := PA_weak pa_nil fun σ H Q ⟨B, ρ, Q', R, hw, hq⟩ =>
  hq [] [] ρ B H (fun _ z => z) (fun _ z => .inl z) R trivial trivial (Sub.refl ρ) Kp.refl hw
theorem PendL.own_at {K : PySem.W.Frag} {H0 : Hp} {B : Addr → Prop} {ρ : List Slot} {σ : L2.St} {H : Hp} : ∀ {ss : List Slot} {vs : List V} {j : Nat} {b : Bool} {o : O} {u : V}, PendL K H0 B ρ σ H ss vs → ss[j]? = some (.own b o) → vs[j]? = some u → ∃ a, u = .ref a ∧ H0 a = none
  | s :: ss, v :: vs, 0, b, o, u, p, e1, e2 => by
    cases e1
    cases e2
    obtain ⟨a, e, n, n0, q⟩ := p.1
    exact ⟨a, e, n0⟩
  | s :: ss, v :: vs, j + 1, b, o, u, p, e1, e2 => PendL.own_at (j := j) (b := b) (o := o) (u := u) p.2 (by simpa using e1) (by simpa using e2)
  | [], [], j, b, o, u, p, e1, e2 => by simp at e1
theorem ma2_cons {X : Cx} {e : Expr} {es : List Expr} {w : WE} {ws : List WE} (he : ME X e w) (hr : MA2 X es ws) (hs : starEach (e :: es) X.env = (false, eval e X.env) :: starEach es X.env := by rfl) : MA2 X (e :: es) (w :: ws) :=
  PA_weak (pa_cons he hr hs) fun σ H Q ⟨B, ρ, Q', R, hw, hq⟩ => by
    refine ⟨B, ρ, _, R, hw, fun s v ρ1 H1 post sub kp hw1 => ?_⟩
    obtain ⟨B1, b1, b1', R1, P1⟩ := post.pend
    refine ⟨B1, ρ1, _, R1, hw1, fun ss vs ρ2 B2 H2 b2 b2' R2 P2 nd sub2 kp2 q => ?_⟩
    refine hq (s :: ss) (v :: vs) ρ2 B2 H2 (fun a z => b2 a (b1 a z)) (fun a z => ?_) R2 ⟨P1.step R1 kp2 sub2 b2 b2', P2.start kp⟩ ⟨fun b o e j b' o' u e1 e2 z => ?_, nd⟩ (sub.trans sub2) (kp.trans kp2 fun a z => sub.own a z) q
    · rcases b2' a z with z | z
      · exact b1' a z
      · exact .inr (kp.back z)
    · subst e
      obtain ⟨a1, rfl, m1, m2, _⟩ := P1
      obtain ⟨a2, rfl, n2⟩ := P2.own_at e1 e2
      cases z
      exact R1.btr _ m1 n2
def prepL (ρ : List Slot) : List Slot → (List Slot → List Slot → Prop) → Prop
  | [], k => k [] ρ
  | s :: ss, k => prep ρ s fun t ρ1 => prepL ρ1 ss fun ts ρ2 => k (t :: ts) ρ2
def putL : List Nat → List Slot → List Slot → (List Slot → Prop) → Prop
  | [], ρ, [], k => k ρ
  | i :: is, ρ, t :: ts, k => put i ρ t fun ρ1 => putL is ρ1 ts k
  | _, _, _, _ => False
def setL (σ : L2.St) : List Nat → List V → L2.St
  | i :: is, v :: vs => setL (σ.set i (some v)) is vs
  | _, _ => σ
def NoVB (t : Slot) : Prop := (∀ i, t ≠ Slot.var i) ∧ ∀ d S, t ≠ Slot.bun d S
def NV (ts ss : List Slot) : Prop := ∀ (j : Nat) (t : Slot), ts[j]? = some t → NoVB t ∧ ∀ (b : Bool) (o : O), t = Slot.own b o → ss[j]? = some (Slot.own b o)
section
variable {K : PySem.W.Frag} {Hs H0 : Hp} {L : LT} {σ : L2.St} {H : Hp}
theorem prepL_ok {B : Addr → Prop} : ∀ {ss : List Slot} {vs : List V} {ρ : List Slot} {k : List Slot → List Slot → Prop}, Rep K B ρ σ H → PendL K Hs B ρ σ H ss vs → prepL ρ ss k → ∃ ts ρ', k ts ρ' ∧ Rep K B ρ' σ H ∧ Sub ρ' ρ ∧ PendL K Hs B ρ' σ H ts vs ∧ NV ts ss
  | [], [], ρ, k, R, p, h => ⟨[], ρ, h, R, Sub.refl ρ, trivial, fun j t e => by simp at e⟩
  | s :: ss, v :: vs, ρ, k, R, p, h => by
    obtain ⟨t, ρ1, q1, R1, sub1, P1, nv, ow, nb⟩ := prep_ok (B0 := B) R p.1 h
    obtain ⟨ts, ρ2, q2, R2, sub2, P2, NV2⟩ := prepL_ok R1 (p.2.step R Kp.refl sub1 (fun _ z => z) fun _ z => .inl z) q1
    refine ⟨t :: ts, ρ2, q2, R2, sub1.trans sub2, ⟨P1.step R1 Kp.refl sub2 (fun _ z => z) fun _ z => .inl z, P2⟩, fun j u e => ?_⟩
    cases j with
    | zero => cases e; exact ⟨⟨nv, nb⟩, fun b o z => by rw [ow b o z]; rfl⟩
    | succ j => exact NV2 j u (by simpa using e)
theorem putL_ok (hs : ∀ a, Hs a = none → H0 a = none) : ∀ {is : List Nat} {ts : List Slot} {vs : List V} {B : Addr → Prop} {ρ : List Slot} {σ : L2.St} {k : List Slot → Prop}, Rep K B ρ σ H → Fr H0 L ρ σ H → PendL K Hs B ρ σ H ts vs → (∀ (j : Nat) (t : Slot), ts[j]? = some t → NoVB t) → ND ts vs → putL is ρ ts k →
    ∃ (B' : Addr → Prop) (ρ' : List Slot), k ρ' ∧ Rep K B' ρ' (setL σ is vs) H ∧ Fr H0 L ρ' (setL σ is vs) H ∧ (∀ a, B a → B' a ∨ Hs a = none) ∧ is.length = vs.length
  | [], [], [], B, ρ, σ, k, R, F, p, nv, nd, h => ⟨B, ρ, h, R, F, fun _ z => .inl z, rfl⟩
  | i :: is, t :: ts, v :: vs, B, ρ, σ, k, R, F, p, nv, nd, h => by
    obtain ⟨B1, ρ1, q1, R1, F1, c1, d1, keep⟩ := put_ok R F p.1 hs h
    have PL : ∀ {ts : List Slot} {vs : List V}, PendL K Hs B ρ σ H ts vs → (∀ (j : Nat) (t : Slot), ts[j]? = some t → NoVB t) → (∀ b o, t = .own b o → ∀ (j : Nat) (b' : Bool) (o' : O) (u : V), ts[j]? = some (.own b' o') → vs[j]? = some u → v ≠ u) → PendL K Hs B1 ρ1 (σ.set i (some v)) H ts vs := by
      intro ts
      induction ts with
      | nil => intro vs p _ _; cases vs with
        | nil => trivial
        | cons _ _ => exact p.elim
      | cons t2 ts ih =>
        intro vs p nv nd
        cases vs with
        | nil => exact p.elim
        | cons v2 vs => exact ⟨keep t2 v2 p.1 (nv 0 t2 rfl).1 (fun b o b' o' e1 e2 => nd b o e1 0 b' o' v2 (by rw [e2]; rfl) rfl) (nv 0 t2 rfl).2, ih p.2 (fun j t e => nv (j + 1) t (by simpa using e)) fun b o e j b' o' u e1 e2 => nd b o e (j + 1) b' o' u (by simpa using e1) (by simpa using e2)⟩
    obtain ⟨B2, ρ2, q2, R2, F2, d2, ln⟩ := putL_ok hs R1 F1 (PL p.2 (fun j t e => nv (j + 1) t (by simpa using e)) nd.1) (fun j t e => nv (j + 1) t (by simpa using e)) nd.2 q1
    exact ⟨B2, ρ2, q2, R2, F2, fun a z => (d1 a z).elim (fun z => d2 a z) .inr, congrArg (· + 1) ln⟩
  | [], [], _ :: _, _, _, _, _, _, _, p, _, _, _ => p.elim
  | [], _ :: _, _, _, _, _, _, _, _, _, _, _, h => h.elim
  | _ :: _, [], _, _, _, _, _, _, _, _, _, _, h => h.elim
  | _ :: _, _ :: _, [], _, _, _, _, _, _, p, _, _, _ => p.elim
theorem ND.of : ∀ {ts ss : List Slot} {vs : List V}, NV ts ss → ND ss vs → ts.length = ss.length → ND ts vs
  | [], _, _, _, _, _ => trivial
  | t :: ts, s :: ss, [], _, _, _ => trivial
  | t :: ts, s :: ss, v :: vs, nv, nd, hl => by
    refine ⟨fun b o e j b' o' u e1 e2 => nd.1 b o (by have := (nv 0 t rfl).2 b o e; simpa using this) j b' o' u ?_ e2, ND.of (fun j t e => ?_) nd.2 (by simpa using hl)⟩
    · have := (nv (j + 1) _ (by simpa using e1)).2 b' o' rfl
      simpa using this
    · have := nv (j + 1) t (by simpa using e)
      exact ⟨this.1, fun b o z => by have := this.2 b o z; simpa using this⟩
theorem PendL.len : ∀ {ss : List Slot} {vs : List V} {B : Addr → Prop} {ρ : List Slot}, PendL K Hs B ρ σ H ss vs → ss.length = vs.length
  | [], [], _, _, _ => rfl
  | _ :: _, _ :: _, _, _, p => congrArg (· + 1) (PendL.len p.2)
  | [], _ :: _, _, _, p => p.elim
  | _ :: _, [], _, _, p => p.elim
end
def wParN (is : List Nat) (ws : List WE) : WS := fun KD ρ => wArgs ws ρ fun ss ρ1 => prepL ρ1 ss fun ts ρ2 => putL is ρ2 ts KD.nx
theorem stores_ok {K : PySem.W.Frag} {B B' : Addr → Prop} {H0 : Hp} {L : LT} {ρ ρ' : List Slot} {σ : L2.St} {H H' : Hp} {is : List Nat} {ss : List Slot} {vs : List V} {k : List Slot → Prop} (R : Rep K B ρ σ H) (F : Fr H0 L ρ σ H) (b : ∀ a, B a → B' a) (R' : Rep K B' ρ' σ H')
    (P : PendL K H B' ρ' σ H' ss vs) (nd : ND ss vs) (sub : Sub ρ' ρ) (kp : Kp (Own ρ σ) H H') (q : prepL ρ' ss fun ts ρ2 => putL is ρ2 ts k) : ∃ ρ3, k ρ3 ∧ Rep K B ρ3 (setL σ is vs) H' ∧ Fr H0 L ρ3 (setL σ is vs) H' ∧ is.length = vs.length := by
  obtain ⟨ts, ρ2, q2, R2, sub2, P2, nv⟩ := prepL_ok R' P q
  have hl : ts.length = ss.length := P2.len.trans P.len.symm
  obtain ⟨B3, ρ3, q3, R3, F3, d3, ln⟩ := putL_ok (fun a z => by
    cases e : H0 a with
    | none => rfl
    | some o => exact absurd z (F.trk a (by rw [e]; exact nofun))) R2 ((F.step kp sub).step Kp.refl sub2) P2 (fun j t e => (nv j t e).1) (ND.of nv nd hl) q2
  refine ⟨ρ3, q3, R3.fewer fun a z => ?_, F3, ln⟩
  rcases d3 a (b a z) with z' | z'
  · exact z'
  · exact absurd z' (R.btr a z)
def MGn (X : Cx) (ts : List Expr) (is : List Nat) : Prop := PGs X ts fun vs σ H Q => is.length = vs.length ∧ Q (setL σ is vs) H
theorem mgn_nil {X : Cx} : MGn X [] [] := ⟨fun pins s σ H vs us Q I r h => (pgs_nil).run pins s σ H vs us Q I r (by
  cases vs with
  | nil => exact ⟨rfl, h.2⟩
  | cons v vs => cases h.1)⟩
theorem mgn_cons {X : Cx} {x : Str} {i : Nat} {pos : Pos} {ts : List Expr} {is : List Nat} (hN : X.N.Nodup) (hi : X.N[i]? = some x) (hx : Loc X.env.scope x) (hr : MGn X ts is) (hf : X.fn x = true ∨ X.env.scope.names.lookup x = some .local := by first | exact .inl rfl | exact .inr rfl | assumption)
    (hs : (assignEach (.Name x pos :: ts) X.env).map (·.2) = assign (.Name x pos) X.env :: (assignEach ts X.env).map (·.2) := by rfl) : MGn X (.Name x pos :: ts) (i :: is) :=
  ⟨fun pins s σ H vs us Q I r h => (pgs_cons (pg_name hN hi hx hf) hr hs).run pins s σ H vs us Q I r (by
    cases vs with
    | nil => cases h.1
    | cons v vs => exact ⟨v, vs, rfl, by have := h.1; simpa using this, h.2⟩)⟩
def wTupAsg (is : List Nat) (ws : List WE) : WS := fun KD ρ => wArgs ws ρ fun ss ρ1 => ss.length ≤ sizeLine ∧ prepL ρ1 ss fun ts ρ2 => putL is ρ2 ts KD.nx
theorem ms_tupAsg {X : Cx} {ts es : List Expr} {is : List Nat} {ws : List WE} {kt k2 : Nat} {pt pt2 pos : Pos} {n : Nat} (hc : X.calm = true) (ha : MA2 X es ws) (hg : MGn X ts is) (hl : is.length = n := by rfl) (hn : (assignEach ts X.env).length = n := by rfl)
    (hst : (assignEach ts X.env).findIdx? (·.1) = none := by rfl) (hs : swapsWithSole [.Tuple ts kt pt] (.Tuple es k2 pt2) pos.line X.env = pure false := by rfl) (hw : swappedStores [.Tuple ts kt pt] (.Tuple es k2 pt2) X.env = pure none := by rfl)
    (h1 : (assignEach [.Tuple ts kt pt] X.env).map (·.2) = [assign (.Tuple ts kt pt) X.env] := by rfl) : MS X (.Assign [.Tuple ts kt pt] (.Tuple es k2 pt2) pos) (wTupAsg is ws) :=
  ms_of (ps_asg (pe_tup ha) (pg_tup hc hg hn hst) hs hw h1) fun B H0 L ρ σ H KD D R F hw en => by
    refine ⟨B, ρ, _, R, hw, fun ss vs ρ1 B1 H1 b1 b1' R1 P1 nd sub kp ⟨hz, q⟩ => ⟨by rw [← P1.len]; exact hz, fun p np => ?_⟩⟩
    have ex := Ex.new (o := HO.tup vs) np
    have R2 : Rep X.K B1 ρ1 σ (L2.upd H1 p (.tup vs)) := R1.ex ex fun a z => .inl z
    have P2 := P1.step R1 (ex.kp (S := Own ρ1 σ)) (Sub.refl ρ1) (fun _ z => z) fun _ z => .inl z
    obtain ⟨ρ3, q3, R3, F3, ln⟩ := stores_ok R F b1 R2 P2 nd sub (kp.trans ex.kp fun _ z => z) q
    exact ⟨p, vs, rfl, SqT.of upd_same, by rw [← ln, hl], ln, en.nx ρ3 _ _ R3 F3 q3⟩
end Dl
namespace Dl
open PySem L2
variable [TabN]
section
variable {P : Program} {w : World} {A : Around} {E : Value → Shared → Prop} {s : Shared}
end
section
variable {X : Cx} {a : Expr} {w1 : WE} {pos : Pos}
def wRev2 (w : WE) : WE := fun ρ Q => w ρ fun s ρ1 => match lookD ρ1 s with
  | some (.lst ds) => Q (.own false (.lst ds.reverse)) ρ1
  | some (.tup ds) => Q (.fro (.tup ds.reverse)) ρ1
  | _ => False
end
end Dl
namespace Dl
open PySem L2
variable [TabN]
end Dl
namespace Dl
open PySem L2
variable [TabN]
def fg1 (i : Nat) (ρ : List Slot) : List Slot := match (match ρ[i]? with
    | some (.own true _) => true
    | some (.sto _) => true
    | _ => false) with
  | true => ρ
  | false => ρ.set i .nil
def fgs : List Nat → List Slot → List Slot
  | [], ρ => ρ
  | i :: is, ρ => fgs is (fg1 i ρ)
section
variable {K : PySem.W.Frag} {B : Addr → Prop} {ρ : List Slot} {σ : L2.St} {H H0 : Hp} {L : LT} {i : Nat}
theorem own_nil {a : Addr} (h : Own (ρ.set i .nil) σ a) : Own ρ σ a := by
  rcases h with ⟨j, b, o, e1, e2⟩ | ⟨j, S, e1, e2⟩
  · rcases getElem?_set_of e1 with ⟨_, z⟩ | ⟨_, z⟩
    · cases z
    · exact .inl ⟨j, b, o, z, e2⟩
  · rcases getElem?_set_of e1 with ⟨_, z⟩ | ⟨_, z⟩
    · cases z
    · exact .inr ⟨j, S, z, e2⟩
theorem Rep.setNil (R : Rep K B ρ σ H) (ns : ∀ S, ρ[i]? ≠ some (.sto S)) : Rep K B (ρ.set i .nil) σ H := by
  have av : ∀ a, Av B (ρ.set i .nil) σ a → Av B ρ σ a := fun a z => z.elim (fun z => .inl (own_nil z)) .inr
  refine ⟨R.shp.of (by rw [List.length_set]; exact R.len) (fun j s e => ?_) (fun j b o a e1 e2 => ?_) (fun j S e => ?_), fun j s e => ?_, R.btr, fun a z => R.dis a (own_nil z), R.tabs⟩
  · have hj := (List.getElem?_eq_some_iff.mp e).1
    rw [List.length_set] at hj
    rcases R.tail j _ (List.getElem?_eq_getElem hj) with z | ⟨S, z⟩
    · exact .inl z
    · have ej : ρ[j]? = some (.sto S) := by rw [List.getElem?_eq_getElem hj, z]
      have n : i ≠ j := fun q => by subst q; exact ns S ej
      rw [List.getElem?_set_ne n, ej] at e; cases e; exact .inr ⟨S, rfl⟩
  · rcases getElem?_set_of e1 with ⟨_, z⟩ | ⟨_, z⟩
    · cases z
    · exact ⟨b, o, z, e2⟩
  · rcases getElem?_set_of e with ⟨_, z⟩ | ⟨_, z⟩
    · cases z
    · exact ⟨S, z, fun _ z => z⟩
  · rcases getElem?_set_of e with ⟨_, z⟩ | ⟨_, z⟩
    · subst z; trivial
    · exact (R.slot j s z).av av
theorem Fr.setNil (F : Fr H0 L ρ σ H) (h : ∀ o, ρ[i]? ≠ some (.own true o)) (ns : ∀ S, ρ[i]? ≠ some (.sto S)) : Fr H0 L (ρ.set i .nil) σ H where
  keep := fun a o e n t => F.keep a o e n t
  imm := F.imm
  trk := F.trk
  ownf := fun j o a e1 e2 => by
    rcases getElem?_set_of e1 with ⟨_, z⟩ | ⟨_, z⟩
    · cases z
    · exact F.ownf j o a z e2
  lent := fun j a => by
    rw [F.lent j a]
    by_cases n : i = j
    · subst n
      constructor
      · rintro ⟨⟨o, e⟩, _⟩; exact (h o e).elim
      · rintro ⟨⟨o, e⟩, _⟩
        rcases getElem?_set_of e with ⟨_, z⟩ | ⟨n, _⟩
        · cases z
        · exact absurd rfl n
    · rw [List.getElem?_set_ne n]
  sto := fun j S a e1 e2 => by
    rcases getElem?_set_of e1 with ⟨_, z⟩ | ⟨_, z⟩
    · cases z
    · exact F.sto j S a z e2
  stl := fun j => by
    rw [F.stl j]
    by_cases n : i = j
    · subst n
      constructor
      · rintro ⟨S, e⟩; exact (ns S e).elim
      · rintro ⟨S, e⟩
        rcases getElem?_set_of e with ⟨_, z⟩ | ⟨n, _⟩
        · cases z
        · exact absurd rfl n
    · rw [List.getElem?_set_ne n]
theorem Rep.fg1 (R : Rep K B ρ σ H) : Rep K B (Dl.fg1 i ρ) σ H := by
  unfold Dl.fg1
  split
  · exact R
  · rename_i h; exact R.setNil fun S e => by rw [e] at h; cases h
theorem Fr.fg1 (F : Fr H0 L ρ σ H) : Fr H0 L (Dl.fg1 i ρ) σ H := by
  unfold Dl.fg1
  split
  · exact F
  · rename_i h; exact F.setNil (fun o e => by rw [e] at h; cases h) fun S e => by rw [e] at h; cases h
theorem Rep.fgs : ∀ {is : List Nat} {ρ : List Slot}, Rep K B ρ σ H → Rep K B (Dl.fgs is ρ) σ H
  | [], _, R => R
  | i :: is, ρ, R => Rep.fgs (is := is) (ρ := Dl.fg1 i ρ) R.fg1
theorem Fr.fgs : ∀ {is : List Nat} {ρ : List Slot}, Fr H0 L ρ σ H → Fr H0 L (Dl.fgs is ρ) σ H
  | [], _, R => R
  | i :: is, ρ, R => Fr.fgs (is := is) (ρ := Dl.fg1 i ρ) R.fg1
end
def wFg (is : List Nat) (w : WS) : WS := fun KD ρ => w { KD with nx := fun ρ' => KD.nx (fgs is ρ') } ρ
def wFgL (is js : List Nat) (w : WS) : WS := fun KD ρ => w { KD with nx := fun ρ' => KD.nx (fgs is ρ'), ct := fun ρ' => KD.ct (fgs is ρ'), bk := fun ρ' => KD.bk (fgs js ρ') } ρ
theorem ms_fg {X : Cx} {st : Stmt} {w : WS} {is : List Nat} (h : MS X st w) : MS X st (wFg is w) := ms_of h fun B H0 L ρ σ H KD D R F hw e =>
  ⟨B, H0, L, ρ, _, R, F, hw, ⟨fun ρ' σ' H' R' F' q => e.nx _ σ' H' R'.fgs F'.fgs q, e.bk, e.ct, e.rt⟩⟩
theorem mss_fgl {X : Cx} {st : List Stmt} {w : WS} {is js : List Nat} (h : MSs X st w) : MSs X st (wFgL is js w) := PSs_weak h fun D σ H ⟨B, H0, L, ρ, KD, R, F, hw, e⟩ =>
  ⟨B, H0, L, ρ, _, R, F, hw, ⟨fun ρ' σ' H' R' F' q => e.nx _ σ' H' R'.fgs F'.fgs q, fun ρ' σ' H' R' F' q => e.bk _ σ' H' R'.fgs F'.fgs q, fun ρ' σ' H' R' F' q => e.ct _ σ' H' R'.fgs F'.fgs q, e.rt⟩⟩
def fz1 (i : Nat) (ρ : List Slot) : List Slot := match ρ[i]? with
  | some (.own false o) => ρ.set i (.fro o.d)
  | _ => ρ
def fzs : List Nat → List Slot → List Slot
  | [], ρ => ρ
  | i :: is, ρ => fzs is (fz1 i ρ)
section
variable {K : PySem.W.Frag} {B : Addr → Prop} {ρ : List Slot} {σ : L2.St} {H H0 : Hp} {L : LT} {i : Nat}
theorem Rep.fz1 (R : Rep K B ρ σ H) : Rep K B (Dl.fz1 i ρ) σ H ∧ Sub (Dl.fz1 i ρ) ρ := by
  unfold Dl.fz1
  split
  · rename_i o h; exact ⟨(R.freeze h).1, (R.freeze h).2.1⟩
  · exact ⟨R, Sub.refl ρ⟩
theorem Rep.fzs : ∀ {is : List Nat} {ρ : List Slot}, Rep K B ρ σ H → Rep K B (Dl.fzs is ρ) σ H ∧ Sub (Dl.fzs is ρ) ρ
  | [], ρ, R => ⟨R, Sub.refl ρ⟩
  | i :: is, ρ, R => by
    obtain ⟨R1, s1⟩ := R.fz1 (i := i)
    obtain ⟨R2, s2⟩ := Rep.fzs (is := is) (ρ := Dl.fz1 i ρ) R1
    exact ⟨R2, s1.trans s2⟩
end
def wFz (is : List Nat) (w : WS) : WS := fun KD ρ => w { KD with nx := fun ρ' => KD.nx (fzs is ρ') } ρ
theorem ms_fz {X : Cx} {st : Stmt} {w : WS} {is : List Nat} (h : MS X st w) : MS X st (wFz is w) := ms_of h fun B H0 L ρ σ H KD D R F hw e =>
  ⟨B, H0, L, ρ, _, R, F, hw, ⟨fun ρ' σ' H' R' F' q => e.nx _ σ' H' R'.fzs.1 (F'.step Kp.refl R'.fzs.2) q, e.bk, e.ct, e.rt⟩⟩
def flatD : D → Bool
  | .non => true
  | .bl _ => true
  | .int _ => true
  | .str _ => true
  | _ => false
def keyV : D → V
  | .non => .non
  | .bl b => .bl b
  | .int i => .int i
  | .str x => .str x
  | _ => .non
theorem rep_flat {K : PySem.W.Frag} {A : Addr → Prop} {H : Hp} {v : V} {d : D} (h : flatD d = true) (r : RepV K A H v d) : v = keyV d ∧ flatV v = true := by
  cases r with
  | non => exact ⟨rfl, rfl⟩
  | bl b => exact ⟨rfl, rfl⟩
  | int i => exact ⟨rfl, rfl⟩
  | str x => exact ⟨rfl, rfl⟩
  | _ => cases h
theorem rep_flats {K : PySem.W.Frag} {A : Addr → Prop} {H : Hp} : ∀ {vs : List V} {ds : List D}, ds.all flatD = true → RepL K A H vs ds → vs = ds.map keyV ∧ vs.all flatV = true
  | _, _, _, .nil => ⟨rfl, rfl⟩
  | _, _, h, .cons r1 r2 => by
    rw [List.all_cons, Bool.and_eq_true] at h
    obtain ⟨e1, f1⟩ := rep_flat h.1 r1
    obtain ⟨e2, f2⟩ := rep_flats h.2 r2
    subst e1 e2
    exact ⟨rfl, by rw [List.all_cons, f1, f2]; rfl⟩
theorem sees_flat {K : PySem.W.Frag} {A : Addr → Prop} {H : Hp} {v : V} {d : D} (h : flatD d = true) (s : Sees K A H v d) : v = keyV d ∧ flatV v = true := by
  cases d with
  | non => exact rep_flat h (show RepV K A H v .non from s)
  | bl b => exact rep_flat h (show RepV K A H v (.bl b) from s)
  | int i => exact rep_flat h (show RepV K A H v (.int i) from s)
  | str x => exact rep_flat h (show RepV K A H v (.str x) from s)
  | _ => cases h
def inD (d : D) (ds : List D) : Bool := inV (keyV d) (ds.map keyV)
def gIn : D → D → (Slot → Prop) → Prop
  | .str ⟨cs⟩, .str z, k => ∃ c, cs = #[c] ∧ k (.fro (.bl (decide (c ∈ z.cps.toList))))
  | d, .tup ds, k => flatD d = true ∧ ds.all flatD = true ∧ k (.fro (.bl (inD d ds)))
  | d, .lst ds, k => flatD d = true ∧ ds.all flatD = true ∧ k (.fro (.bl (inD d ds)))
  | _, _, _ => False
def gNotIn : D → D → (Slot → Prop) → Prop
  | .str ⟨cs⟩, .str z, k => ∃ c, cs = #[c] ∧ k (.fro (.bl (!decide (c ∈ z.cps.toList))))
  | d, .tup ds, k => flatD d = true ∧ ds.all flatD = true ∧ k (.fro (.bl (!inD d ds)))
  | d, .lst ds, k => flatD d = true ∧ ds.all flatD = true ∧ k (.fro (.bl (!inD d ds)))
  | _, _, _ => False
theorem gIn_tup {d : D} {ds : List D} {k : Slot → Prop} : gIn d (.tup ds) k = (flatD d = true ∧ ds.all flatD = true ∧ k (.fro (.bl (inD d ds)))) := by cases d <;> rfl
theorem gIn_lst {d : D} {ds : List D} {k : Slot → Prop} : gIn d (.lst ds) k = (flatD d = true ∧ ds.all flatD = true ∧ k (.fro (.bl (inD d ds)))) := by cases d <;> rfl
theorem gNotIn_tup {d : D} {ds : List D} {k : Slot → Prop} : gNotIn d (.tup ds) k = (flatD d = true ∧ ds.all flatD = true ∧ k (.fro (.bl (!inD d ds)))) := by cases d <;> rfl
theorem gNotIn_lst {d : D} {ds : List D} {k : Slot → Prop} : gNotIn d (.lst ds) k = (flatD d = true ∧ ds.all flatD = true ∧ k (.fro (.bl (!inD d ds)))) := by cases d <;> rfl
theorem in_seq {K : PySem.W.Frag} {A : Addr → Prop} {H : Hp} {x y : V} {d : D} {ds : List D} (hd : flatD d = true) (hds : ds.all flatD = true) (sd : Sees K A H x d) (se : Sees K A H y (.tup ds) ∨ Sees K A H y (.lst ds)) :
    ∃ p xs, y = .ref p ∧ (SqL K H p xs ∨ SqT K H p xs) ∧ flatV x = true ∧ xs.all flatV = true ∧ inV x xs = inD d ds := by
  obtain ⟨ex, fx⟩ := sees_flat hd sd
  rcases se with se | ⟨a, xs, e1, e2, r⟩
  · obtain ⟨a, xs, rfl, hs, r⟩ := sees_tup se
    obtain ⟨e, f⟩ := rep_flats hds r
    exact ⟨a, xs, rfl, .inr hs, fx, f, by rw [ex, e]; rfl⟩
  · obtain ⟨e, f⟩ := rep_flats hds r
    exact ⟨a, xs, e1, .inl (SqL.of e2), fx, f, by rw [ex, e]; rfl⟩
section
variable {X : Cx}
theorem od_in : OpD X (compareOp .In) gIn := opD_of fun pins s σ H x y v u Q A d e k I rx ry sd se ht hg hq => by
  cases e with
  | str z =>
    cases d with
    | str t =>
      obtain ⟨cs⟩ := t
      obtain ⟨c, rfl, hk⟩ := hg
      exact op_in_sign pins s σ H x y v u Q I rx ry ⟨c, z, sees_str sd, sees_str se, hq _ _ H (Ex.refl H) (newF (.bl _)) hk⟩
    | _ => exact hg.elim
  | tup ds =>
    rw [gIn_tup] at hg
    obtain ⟨h1, h2, hk⟩ := hg
    obtain ⟨p, xs, rfl, hs, f1, f2, e⟩ := in_seq h1 h2 sd (.inl se)
    refine op_in_seq pins s σ H x _ v u Q I rx ry ⟨p, xs, rfl, hs, f1, f2, ?_⟩
    rw [e]
    exact hq _ _ H (Ex.refl H) (newF (.bl _)) hk
  | lst ds =>
    rw [gIn_lst] at hg
    obtain ⟨h1, h2, hk⟩ := hg
    obtain ⟨p, xs, rfl, hs, f1, f2, e⟩ := in_seq h1 h2 sd (.inr se)
    refine op_in_seq pins s σ H x _ v u Q I rx ry ⟨p, xs, rfl, hs, f1, f2, ?_⟩
    rw [e]
    exact hq _ _ H (Ex.refl H) (newF (.bl _)) hk
  | _ => cases d <;> exact hg.elim
theorem od_notin : OpD X (compareOp .NotIn) gNotIn := opD_of fun pins s σ H x y v u Q A d e k I rx ry sd se ht hg hq => by
  cases e with
  | str z =>
    cases d with
    | str t =>
      obtain ⟨cs⟩ := t
      obtain ⟨c, rfl, hk⟩ := hg
      exact op_notIn_sign pins s σ H x y v u Q I rx ry ⟨c, z, sees_str sd, sees_str se, hq _ _ H (Ex.refl H) (newF (.bl _)) hk⟩
    | _ => exact hg.elim
  | tup ds =>
    rw [gNotIn_tup] at hg
    obtain ⟨h1, h2, hk⟩ := hg
    obtain ⟨p, xs, rfl, hs, f1, f2, e⟩ := in_seq h1 h2 sd (.inl se)
    refine op_notIn_seq pins s σ H x _ v u Q I rx ry ⟨p, xs, rfl, hs, f1, f2, ?_⟩
    rw [e]
    exact hq _ _ H (Ex.refl H) (newF (.bl _)) hk
  | lst ds =>
    rw [gNotIn_lst] at hg
    obtain ⟨h1, h2, hk⟩ := hg
    obtain ⟨p, xs, rfl, hs, f1, f2, e⟩ := in_seq h1 h2 sd (.inr se)
    refine op_notIn_seq pins s σ H x _ v u Q I rx ry ⟨p, xs, rfl, hs, f1, f2, ?_⟩
    rw [e]
    exact hq _ _ H (Ex.refl H) (newF (.bl _)) hk
  | _ => cases d <;> exact hg.elim
end
end Dl
namespace Dl
open PySem L2
variable [TabN]
def gAllT : List WG → List D → List Slot → (List Slot → Prop) → Prop
  | [], [], ρ, k => k ρ
  | g :: gs, d :: ds, ρ, k => g d ρ fun ρ' => gAllT gs ds ρ' k
  | _, _, _, _ => False
def gTpG (gs : List WG) : WG := fun d ρ k => match d with
  | .tup ds => ds.length = gs.length ∧ gAllT gs ds ρ k
  | .lst ds => ds.length = gs.length ∧ gAllT gs ds ρ k
  | _ => False
def gsOfG (K : PySem.W.Frag) (js : List Nat) (gs : List WG) : TGs := fun vs σ H Q => ∃ (B : Addr → Prop) (H0 : Hp) (L : LT) (ρ : List Slot) (ds : List D) (k : List Slot → Prop), Rep K B ρ σ H ∧ Fr H0 L ρ σ H ∧ RepL K (Av B ρ σ) H vs ds ∧ gAllT gs ds ρ k ∧
  ∀ ρ' σ', Rep K B ρ' σ' H → Fr H0 L ρ' σ' H → (∀ j, j ∉ js → σ'[j]? = σ[j]? ∧ ρ'[j]? = ρ[j]?) → (∀ (j : Nat) (s : Slot), Hold s → j ∈ js → ρ'[j]? ≠ some s) → σ'.length = σ.length → k ρ' → Q σ' H
section
variable {X : Cx} {pos : Pos}
structure MGG (X : Cx) (ts : List Expr) (js : List Nat) (gs : List WG) : Prop where
  run : PGs X ts (gsOfG X.K js gs)
end
def wArgsS : List (Bool × WE) → List Slot → (List D → List Slot → Prop) → Prop
  | [], ρ, k => k [] ρ
  | (false, w) :: ws, ρ, k => w ρ fun s ρ1 => frz ρ1 s fun d ρ2 => wArgsS ws ρ2 fun ds ρ3 => k (d :: ds) ρ3
  | (true, w) :: ws, ρ, k => w ρ fun s ρ1 => frz ρ1 s fun d ρ2 => match d with
    | .tup es => wArgsS ws ρ2 fun ds ρ3 => k (es ++ ds) ρ3
    | .lst es => wArgsS ws ρ2 fun ds ρ3 => k (es ++ ds) ρ3
    | _ => False
section
variable {X : Cx} {pos : Pos} {e : Expr} {es : List Expr} {w : WE} {ws : List (Bool × WE)}
def wTupS (ws : List (Bool × WE)) : WE := fun ρ Q => wArgsS ws ρ fun ds ρ2 => ds.length ≤ sizeLine ∧ Q (.fro (.tup ds)) ρ2
def wLstS (ws : List (Bool × WE)) : WE := fun ρ Q => wArgsS ws ρ fun ds ρ2 => ds.length ≤ sizeLine ∧ Q (.own false (.lst ds)) ρ2
end
end Dl
namespace Dl
open PySem L2 PyProof.Rows
variable [TabN]
instance keyMem (k : L2.Key) (S : List L2.Key) : Decidable (k ∈ S) := @List.instDecidableMemOfLawfulBEq _ instBEqOfDecidableEq inferInstance k S
def countK (S : List L2.Key) : List L2.Key → Nat
  | [] => 0
  | k :: ks => (if k ∈ S then 0 else 1) + countK (S ++ [k]) ks
section
variable {P : Program} {w : World} {A : Around} {E : Value → Shared → Prop} {s : Shared}
end
end Dl
namespace Dl
open PySem L2 PyProof.Rows
variable [TabN]
def keyD : L2.Key → D
  | .inl i => .int i
  | .inr x => .str x
section
variable {X : Cx} {e : Expr} {w1 : WE}
def wLenSet (w : WE) : WE := fun ρ Q => w ρ fun s ρ1 => match lookD ρ1 s with
  | some (.lst ds) => ∃ ks : List L2.Key, ds = ks.map keyD ∧ ks.length ≤ 1000 ∧ Q (.fro (.int (countK [] ks))) ρ1
  | _ => False
end
end Dl
namespace Dl
open PySem L2 PyProof.Rows
variable [TabN]
section
variable {X : Cx} {e : Expr} {w1 : WE}
def wSortSet2 (w : WE) : WE := fun ρ Q => w ρ fun s ρ1 => match lookD ρ1 s with
  | some (.lst ds) => ∃ ns : List Int, ds = ns.map .int ∧ ns.length < 64 ∧ ∀ ms : List Int, ms.Pairwise (· < ·) → (∀ x, x ∈ ms ↔ x ∈ ns) → ms.length ≤ ns.length → Q (.own false (.lst (ms.map .int))) ρ1
  | some (.tup ds) => ∃ ns : List Int, ds = ns.map .int ∧ ns.length < 64 ∧ ∀ ms : List Int, ms.Pairwise (· < ·) → (∀ x, x ∈ ms ↔ x ∈ ns) → ms.length ≤ ns.length → Q (.own false (.lst (ms.map .int))) ρ1
  | _ => False
end
end Dl
namespace Dl
open PySem L2
variable [TabN]
section
variable {X : Cx}
def gEqNil : D → D → (Slot → Prop) → Prop
  | .tup ds, .tup [], k => k (.fro (.bl ds.isEmpty))
  | _, _, _ => False
end
end Dl
namespace Dl
open PySem L2
variable [TabN]
def gNotB : D → D → (Slot → Prop) → Prop
  | .bl a, .bl b, k => k (.fro (.bl (!decide (a = b))))
  | _, _, _ => False
end Dl
namespace Dl
open PySem L2 PySem.Spec PyProof.Rows
variable [TabN]
section
variable {X : Cx}
def gMul2 : D → D → (Dl.Slot → Prop) → Prop
  | .tup ds, .int k, f => ds ≠ [] ∧ ds.length ≤ 1000 ∧ 0 ≤ k ∧ k ≤ 1000 ∧ f (.fro (.tup (List.replicate k.toNat ds).flatten))
  | a, b, f => gMul a b f
variable {a b c d : Expr} {pos : Pos} {ta tb tc td : TE}
variable {w1 w2 w3 w4 : WE}
end
end Dl
namespace Dl
open PySem L2 PySem.Spec PyProof.Rows
variable [TabN]
def kOfD : D → Option Key
  | .int i => some (.inl i)
  | .str x => some (.inr x)
  | _ => none
def valD (kds : List (Key × D)) (k : Key) : Option D := (kds.find? fun kv => decide (kv.1 = k)).map (·.2)
def putD (kds : List (Key × D)) (k : Key) (d : D) : List (Key × D) :=
  if (kds.any fun kv => decide (kv.1 = k)) = true then kds.map (fun kv => if kv.1 = k then (kv.1, d) else kv) else kds ++ [(k, d)]
def mergeD (kds more : List (Key × D)) : List (Key × D) := more.foldl (fun acc kv => putD acc kv.1 kv.2) kds
section
variable {K : PySem.W.Frag} {A : Addr → Prop} {H : Hp}
theorem RepK.length {kvs : List (Key × V)} {kds : List (Key × D)} (r : RepK K A H kvs kds) : kvs.length = kds.length := by
  induction kvs generalizing kds with
  | nil => cases r; rfl
  | cons p kvs ih => cases r with
    | cons h t => rw [List.length_cons, List.length_cons, ih t]
theorem RepK.any {kvs : List (Key × V)} {kds : List (Key × D)} (r : RepK K A H kvs kds) (k : Key) : (kvs.any fun kv => decide (kv.1 = k)) = (kds.any fun kv => decide (kv.1 = k)) := by
  induction kvs generalizing kds with
  | nil => cases r; rfl
  | cons p kvs ih => cases r with
    | cons h t => rw [List.any_cons, List.any_cons, ih t]
theorem RepK.keys {kvs : List (Key × V)} {kds : List (Key × D)} (r : RepK K A H kvs kds) : kvs.map (·.1) = kds.map (·.1) := by
  induction kvs generalizing kds with
  | nil => cases r; rfl
  | cons p kvs ih => cases r with
    | cons h t => rw [List.map_cons, List.map_cons, ih t]
theorem RepK.append {a b : List (Key × V)} {c d : List (Key × D)} (r : RepK K A H a c) (q : RepK K A H b d) : RepK K A H (a ++ b) (c ++ d) := by
  induction a generalizing c with
  | nil => cases r; exact q
  | cons p a ih => cases r with
    | cons h t => exact .cons h (ih t)
theorem RepK.mapIf {kvs : List (Key × V)} {kds : List (Key × D)} (r : RepK K A H kvs kds) (k : Key) {v : V} {d : D} (h : RepV K A H v d) : RepK K A H (kvs.map fun kv => if kv.1 = k then (kv.1, v) else kv) (kds.map fun kv => if kv.1 = k then (kv.1, d) else kv) := by
  induction kvs generalizing kds with
  | nil => cases r; exact .nil
  | cons p kvs ih => cases r with
    | @cons k' v' vs' d' ds' h' t =>
      rw [List.map_cons, List.map_cons]
      by_cases e : k' = k
      · rw [if_pos e, if_pos e]; exact .cons h (ih t)
      · rw [if_neg e, if_neg e]; exact .cons h' (ih t)
theorem RepK.put {kvs : List (Key × V)} {kds : List (Key × D)} (r : RepK K A H kvs kds) (k : Key) {v : V} {d : D} (h : RepV K A H v d) : RepK K A H (putK kvs k v) (putD kds k d) := by
  unfold putK putD
  rw [r.any k]
  by_cases e : (kds.any fun kv => decide (kv.1 = k)) = true
  · rw [if_pos e, if_pos e]; exact r.mapIf k h
  · rw [if_neg e, if_neg e]; exact r.append (.cons h .nil)
theorem RepK.val {kvs : List (Key × V)} {kds : List (Key × D)} (r : RepK K A H kvs kds) (k : Key) : (∃ v d, valV kvs k = some v ∧ valD kds k = some d ∧ RepV K A H v d) ∨ (valV kvs k = none ∧ valD kds k = none) := by
  induction kvs generalizing kds with
  | nil => cases r; exact .inr ⟨rfl, rfl⟩
  | cons p kvs ih => cases r with
    | @cons k' v' vs' d' ds' h' t =>
      by_cases e : k' = k
      · exact .inl ⟨v', d', by unfold valV; rw [List.find?_cons, decide_eq_true e]; rfl, by unfold valD; rw [List.find?_cons, decide_eq_true e]; rfl, h'⟩
      · have e1 : valV ((k', v') :: kvs) k = valV kvs k := by unfold valV; rw [List.find?_cons, decide_eq_false e]
        have e2 : valD ((k', d') :: ds') k = valD ds' k := by unfold valD; rw [List.find?_cons, decide_eq_false e]
        rw [e1, e2]
        exact ih t
end
section
variable {X : Cx}
def wSetK (i : Nat) (wk w : WE) : WS := fun KD ρ => w ρ fun s ρ1 => frz ρ1 s fun d ρ2 => (∃ b o, ρ2[i]? = some (Slot.own b o)) ∧ wk ρ2 fun t ρ3 => match lookD ρ3 t with
  | some dk => (match ρ3[i]? with
    | some (.own b (.dct kds)) => (match kOfD dk with
      | some k => kds.length < sizeLine ∧ KD.nx (ρ3.set i (.own b (.dct (putD kds k d))))
      | none => False)
    | _ => False)
  | _ => False
def gUpd : O → List D → (O → D → Prop) → Prop
  | .dct kds, [.dct es], k => kds.length + es.length ≤ sizeLine ∧ k (.dct (mergeD kds es)) .non
  | _, _, _ => False
def wUpd (i : Nat) (w : WE) : WE := wMt "dict" i [w] gUpd
def pairKD (p : Key × D) : D := .tup [keyD p.1, p.2]
def gDictP : List D → (Dl.Slot → Prop) → Prop
  | [.lst ds], k => ∃ kds : List (Key × D), ds = kds.map pairKD ∧ k (.own false (.dct (mergeD [] kds)))
  | _, _ => False
def gSortD : List D → (Dl.Slot → Prop) → Prop
  | [.dct kds], k => ∃ ns : List Int, kds.map (·.1) = ns.map Sum.inl ∧ ∀ ms : List Int, ms.Perm ns → ms.Pairwise (· ≤ ·) → k (.own false (.lst (ms.map .int)))
  | _, _ => False
def wLstRg (w1 w2 : WE) : WE := fun ρ Q => w1 ρ fun s1 ρ1 => w2 ρ1 fun s2 ρ2 => with2 ρ2 s1 s2 fun d1 d2 => match d1, d2 with
  | .int i, .int j => RgOk i j ∧ Q (.own false (.lst (rangeD i (j - i).toNat))) ρ2
  | _, _ => False
theorem rg_ints (a b : Int) : rgV a b = ((List.range (b - a).toNat).map fun i : Nat => a + (i : Int)).map V.int := by
  unfold rgV
  rw [List.map_map]
  rfl
theorem rg_D (a : Int) (n : Nat) : rangeD a n = ((List.range n).map fun i : Nat => a + (i : Int)).map D.int := by
  unfold rangeD
  rw [List.map_map]
  rfl
theorem me_lstRg {a b : Expr} {w1 w2 : WE} {p1 p2 q1 q2 : Pos} (hc : X.calm = true) (hg1 : Gl X "list") (hm1 : X.mg "list" = none) (hg2 : Gl X "range") (hm2 : X.mg "range" = none) (ha : ME X a w1) (hb : ME X b w2)
    (na : starEach [a, b] X.env = (false, eval a X.env) :: starEach [b] X.env := by rfl) (nb : starEach [b] X.env = (false, eval b X.env) :: starEach [] X.env := by rfl) (hp : (backTo q2 (starEach [b] X.env)).any (·.1) = false := by rfl)
    (nc : starEach [.Call (.Name "range" p2) [a, b] [] q2] X.env = (false, eval (.Call (.Name "range" p2) [a, b] [] q2) X.env) :: starEach [] X.env := by rfl) :
    ME X (.Call (.Name "list" p1) [.Call (.Name "range" p2) [a, b] [] q2] [] q1) (wLstRg w1 w2) :=
  me_of (pe_listRg hc hg1 hm1 (prg_2 hg2 hm2 ha hb na nb hp) nc) fun B ρ σ H Q' Q R hw hq => by
    refine seq2 R hw fun s1 s2 x y ρ2 B2 H2 b2 b2' R2 P1 P2 sub kp q => ?_
    obtain ⟨d1, d2, e1, e2, q⟩ := with2_get q
    have g1 := P1.sees R2 e1
    have g2 := P2.sees R2 e2
    match d1, d2, q, g1, g2 with
    | .int i, .int j, ⟨hok, q⟩, g1, g2 =>
      refine ⟨i, j, sees_int g1, sees_int g2, hok, fun p np => ?_⟩
      have nw : New X.K (Av B2 ρ2 σ) H2 (L2.upd H2 p (.lst (rgV i j))) (.own false (.lst (rangeD i (j - i).toNat))) (.ref p) := by
        rw [rg_ints, rg_D]
        exact new_lst np (RepL.ints _)
      exact hq _ _ ρ2 _ (nw.post R2 b2 kp (Ex.new np)) sub (kp.trans (Ex.new np).kp fun _ z => z) q
end
end Dl
namespace Dl
open PySem L2 PySem.Spec PyProof.Rows
variable [TabN]
def putFD (f : Str) (d : D) : List (Str × D) → List (Str × D)
  | [] => [(f, d)]
  | (g, x) :: r => if g = f then (g, d) :: r else (g, x) :: putFD f d r
section
variable {K : PySem.W.Frag} {A : Addr → Prop} {H : Hp}
theorem RepF.look {fvs : List (Str × V)} {fds : List (Str × D)} (r : RepF K A H fvs fds) {f : Str} {d : D} (h : fds.lookup f = some d) : ∃ v, fvs.lookup f = some v ∧ RepV K A H v d := by
  induction fvs generalizing fds with
  | nil => cases r; cases h
  | cons p fvs ih => cases r with
    | @cons k v vs d' ds h1 t =>
      rw [List.lookup_cons] at h ⊢
      by_cases e : (f == k) = true
      · rw [e] at h ⊢
        cases h
        exact ⟨v, rfl, h1⟩
      · have e' : (f == k) = false := by simpa using e
        rw [e'] at h ⊢
        exact ih t h
theorem RepF.none {fvs : List (Str × V)} {fds : List (Str × D)} (r : RepF K A H fvs fds) {f : Str} (h : fds.lookup f = none) : fvs.lookup f = none := by
  induction fvs generalizing fds with
  | nil => rfl
  | cons p fvs ih => cases r with
    | @cons k v vs d' ds h1 t =>
      rw [List.lookup_cons] at h ⊢
      by_cases e : (f == k) = true
      · rw [e] at h; cases h
      · have e' : (f == k) = false := by simpa using e
        rw [e'] at h ⊢
        exact ih t h
theorem RepF.length {fvs : List (Str × V)} {fds : List (Str × D)} (r : RepF K A H fvs fds) : fvs.length = fds.length := by
  induction fvs generalizing fds with
  | nil => cases r; rfl
  | cons p fvs ih => cases r with
    | cons h t => rw [List.length_cons, List.length_cons, ih t]
theorem RepF.put {fvs : List (Str × V)} {fds : List (Str × D)} (r : RepF K A H fvs fds) (f : Str) {v : V} {d : D} (h : RepV K A H v d) : RepF K A H (putF f v fvs) (putFD f d fds) := by
  induction fvs generalizing fds with
  | nil => cases r; exact .cons h .nil
  | cons p fvs ih => cases r with
    | @cons k v' vs d' ds h1 t =>
      unfold putF putFD
      by_cases e : k = f
      · rw [if_pos e, if_pos e]; exact .cons h t
      · rw [if_neg e, if_neg e]; exact .cons h1 (ih t)
end
section
variable {X : Cx} {e : Expr} {w1 w : WE} {pos : Pos}
structure Maker (P : Program) (w : World) (K : PySem.W.Frag) (mg : Str → Option Value) (base : Heap) (k : Nat) (c : Str) (ps : List Str) (Cd : WE) : Prop where
  ex : ∃ (C f : Addr) (fd : FuncData), mg c = some (.ref C) ∧ ClsAt K c C ∧ Mk K C f ∧ FnG P w K mg base CX0 k f fd ps (spOf K ps.length Cd) ∧ Binds K fd ps []
end
end Dl
namespace Dl
open PySem L2 PySem.Spec PyProof.Rows PySem.W
variable [TabN]
def back1 (Q : Dl.Slot → List Dl.Slot → Prop) (ρ : List Dl.Slot) : Dl.Slot → List Dl.Slot → Prop := fun r _ => match r with
  | .fro d => Q (.fro d) ρ
  | .own _ o => Q (.own false o) ρ
  | _ => False
theorem sp_ok {K : PySem.W.Frag} {Cd : WE} {B : Addr → Prop} {ρ ρ2 : List Dl.Slot} {σ : L2.St} {H H2 : Hp} {vs : List V} {ds : List D} {Q' : Dl.Slot → List Dl.Slot → Prop} {Q : VK} {E : XK} (R2 : Rep K B ρ2 σ H2) (r : RepL K (Av B ρ2 σ) H2 vs ds) (sub : Sub ρ2 ρ) (kp : Kp (Own ρ σ) H H2)
    (hC : Cd (ds.map .fro) (back1 Q' ρ2)) (hq : ∀ s v ρ' H', Post K B ρ' σ H H' s v → Sub ρ' ρ → Kp (Own ρ σ) H H' → Q' s ρ' → Q v H') : spOf K ds.length Cd vs H2 Q E := by
  refine ⟨r.length, Av B ρ2 σ, ds.map .fro, _, repL_rep (fun a z => R2.av_trk z) R2.tabs r, by rw [List.length_map, r.length], hC, fun s v ρ' H' post _ k3 h => ?_⟩
  have ex : Kp (fun _ => False) H2 H' := k3.mono fun a z => fros_own z
  have k' : Kp (Own ρ σ) H H' := kp.trans (ex.mono fun _ z => z.elim) fun _ z => z
  match s, post, h with
  | .fro d, post, h => exact hq _ _ ρ2 H' (postF (R2.same ex fun a z => .inl z) (post.2.av fun a z => .inr z)) sub k' h
  | .own b o, ⟨a, hv, n, nb, R', q⟩, h =>
    subst hv
    refine hq _ _ ρ2 H' (postO (b := false) (kp.back n) (fun z => R2.btr a z n) (R2.same ex fun x z => z.elim .inl fun z => .inr ⟨by rw [z]; exact n, by rw [z]; exact q.trk⟩) (q.av fun x z => ?_)) sub k' h
    rcases z with z | z | z
    · exact .inr (.inl (.inl z))
    · exact .inr (.inl (.inr z))
    · exact .inr (.inr z)
section
variable {X : Cx} {a b e : Expr} {w1 w2 : WE} {pos : Pos}
structure MethG (P : Program) (w : World) (K : PySem.W.Frag) (mg : Str → Option Value) (base : Heap) (k : Nat) (c m : Str) (ps : List Str) (Cd : WE) : Prop where
  ex : ∀ C, ClsAt K c C → ∃ (f : Addr) (fd : FuncData), findIn K (.ref C) m = some (some (.ref f)) ∧ isFn K (.ref f) = true ∧ selfFirst K C = true ∧ FnG P w K mg base CX0 k f fd ps (spOf K ps.length Cd) ∧ Binds K fd ps []
end
end Dl
namespace Dl
open PySem L2 PySem.Spec PyProof.Rows PySem.W
variable [TabN]
section
variable {X : Cx} {a b e : Expr} {w1 w2 : WE} {pos : Pos}
structure PropG (P : Program) (w : World) (K : PySem.W.Frag) (mg : Str → Option Value) (base : Heap) (k : Nat) (c m : Str) (Cd : WE) : Prop where
  ex : ∀ C, ClsAt K c C → ∃ (p g : Addr) (fd : FuncData) (ps : List Str), Cls K C ∧ PropOf K C m p g ∧ FnG P w K mg base CX0 k g fd ps (spOf K 1 Cd) ∧ Binds K fd ps []
end
end Dl
namespace Dl
open PySem L2 PySem.Spec PyProof.Rows
variable [TabN]
structure AccD (K : PySem.W.Frag) (B : Addr → Prop) (D : Addr) (ρ : List Slot) (σ : L2.St) (H : Hp) (acc : List (Key × Dl.D)) : Prop where
  rep : Rep K B ρ σ H
  bd : B D
  at' : ∃ xs, H D = some (.dK xs) ∧ RepK K (Av B ρ σ) H xs acc
theorem AccD.step {K : PySem.W.Frag} {B : Addr → Prop} {D : Addr} {ρ ρ' : List Slot} {σ : L2.St} {H H' : Hp} {acc : List (Key × Dl.D)} (A : AccD K B D ρ σ H acc) (R : Rep K B ρ' σ H') (k : Kp (Own ρ σ) H H') (sub : ∀ a, Own ρ' σ a → Own ρ σ a) : AccD K B D ρ' σ H' acc := by
  obtain ⟨xs, e, r⟩ := A.at'
  exact ⟨R, A.bd, xs, k.keep _ _ e (fun z => A.rep.dis D z A.bd), r.mono k (fun a z => .inl z) fun a z => .inl (z.elim (fun z => .inl (sub a z)) .inr)⟩
theorem AccD.push {K : PySem.W.Frag} {B : Addr → Prop} {D : Addr} {ρ : List Slot} {σ : L2.St} {H : Hp} {acc : List (Key × Dl.D)} {k : Key} {y : V} {d : Dl.D} (A : AccD K B D ρ σ H acc) (ry : RepV K (Av B ρ σ) H y d) :
    ∃ xs, H D = some (.dK xs) ∧ xs.length = acc.length ∧ AccD K B D ρ σ (L2.upd H D (.dK (putK xs k y))) (putD acc k d) := by
  obtain ⟨xs, e, r⟩ := A.at'
  have kp : Kp (fun x => x = D) H (L2.upd H D (.dK (putK xs k y))) := Kp.upd rfl fun o z => by rw [e] at z; cases z; exact fun q => q
  have hs : ∀ x, x = D → Av B ρ σ x := fun x z => by rw [z]; exact .inr A.bd
  exact ⟨xs, e, r.length, A.rep.updD A.bd e, A.bd, _, upd_same, (r.mono kp hs fun x z => .inl z).put k (ry.mono kp hs fun x z => .inl z)⟩
section
variable {X : Cx} {kx vx tg iter : Expr} {ifs : List Expr} {scope : Scope} {own : List (Str × Nat)} {pos spos : Pos} {wi : WI} {g : WG} {js : List Nat} {t : WT} {wk wv : WE}
end
end Dl
namespace Dl
open PySem L2 PySem.Spec PyProof.Rows
variable [TabN]
section
variable {X : Cx}
end
end Dl
namespace Dl
open PySem L2 PySem.Spec PyProof.Rows
variable [TabN]
section
variable {X : Cx} {a b : Expr} {pos : Pos} {w1 w2 : WE}
end
end Dl
namespace Dl
open PySem L2 PySem.Spec PyProof.Rows
variable [TabN]
end Dl
namespace Dl
open PySem L2 PySem.Spec PyProof.Rows
variable [TabN]
section
variable {P : Program} {w : World} {A : Around} {R : Result → Shared → Prop} {s : Shared} {kx vx ta ia tb ib : Expr} {sc : Scope} {ps : Pos} {it : Value} {dd : Addr} {env : Env}
end
end Dl
namespace Dl
open PySem L2 PySem.Spec PyProof.Rows
variable [TabN]
section
variable {X : Cx} {kx vx ta ia tb ib : Expr} {sc : Scope} {own : List (Str × Nat)} {vs1 : List Nat} {ps ps' : Pos} {wi wi1 : TI} {g g1 : TG} {tk tv : TE}
end
end Dl
namespace Dl
open PySem L2 PySem.Spec PyProof.Rows
variable [TabN]
section
variable {X : Cx} {kx vx ta ia tb ib : Expr} {sc : Scope} {own : List (Str × Nat)} {ps : Pos} {wi wi1 : WI} {g g1 : WG} {js js1 vs1 : List Nat} {wk wv : WE}
end
end Dl
namespace Dl
open PySem L2 PySem.Spec PyProof.Rows
variable [TabN]
theorem pendL_app {K : PySem.W.Frag} {H0 : Hp} {B : Addr → Prop} {ρ : List Slot} {σ : L2.St} {H : Hp} : ∀ {ss zs : List Slot} {vs us : List V}, PendL K H0 B ρ σ H ss vs → PendL K H0 B ρ σ H zs us → PendL K H0 B ρ σ H (ss ++ zs) (vs ++ us)
  | [], _, [], _, _, h => h
  | _ :: _, _, _ :: _, _, ⟨h1, h2⟩, h => ⟨h1, pendL_app h2 h⟩
theorem pendL_start {K : PySem.W.Frag} {H0 H1 : Hp} {S : Addr → Prop} {B : Addr → Prop} {ρ : List Slot} {σ : L2.St} {H : Hp} (k : Kp S H0 H1) : ∀ {ss : List Slot} {vs : List V}, PendL K H1 B ρ σ H ss vs → PendL K H0 B ρ σ H ss vs
  | [], [], h => h
  | _ :: _, _ :: _, ⟨h1, h2⟩ => ⟨h1.start k, pendL_start k h2⟩
theorem pendL_len {K : PySem.W.Frag} {H0 : Hp} {B : Addr → Prop} {ρ : List Slot} {σ : L2.St} {H : Hp} : ∀ {ss : List Slot} {vs : List V}, PendL K H0 B ρ σ H ss vs → ss.length = vs.length
  | [], [], _ => rfl
  | _ :: _, _ :: _, ⟨_, h⟩ => by rw [List.length_cons, List.length_cons, pendL_len h]
def wCallPK (C : WE) (ws us : List WE) : WE := fun ρ Q => wArgs ws ρ fun ss ρ1 => ss.length = ws.length ∧ wArgs us ρ1 fun zs ρ2 => zs.length = us.length ∧ frzL ρ2 (ss ++ zs) fun ds ρ3 => ds.length = ws.length + us.length ∧ C (ds.map .fro) (back1 Q ρ3)
theorem callPK_ok {K : PySem.W.Frag} {C : WE} {B : Addr → Prop} {ρ : List Slot} {σ : L2.St} {H : Hp} {ws us : List WE} {Q' : Slot → List Slot → Prop} {Q : VK} {E : XK} (R : Rep K B ρ σ H) (hw : wCallPK C ws us ρ Q') (hq : ∀ s v ρ' H', Post K B ρ' σ H H' s v → Sub ρ' ρ → Kp (Own ρ σ) H H' → Q' s ρ' → Q v H') :
    taOf K ws σ H fun vs H1 => vs.length = ws.length ∧ taOf K us σ H1 fun zs H2 => zs.length = us.length ∧ spOf K (ws.length + us.length) C (vs ++ zs) H2 Q E := by
  refine ⟨B, ρ, _, R, hw, fun ss vs ρ1 B1 H1 b1 b1' R1 P1 sub kp ⟨l1, hw1⟩ => ⟨by rw [← pendL_len P1]; exact l1, B1, ρ1, _, R1, hw1, fun zs xs ρ2 B2 H2 b2 b2' R2 P2 sub2 kp2 ⟨l2, q⟩ => ⟨by rw [← pendL_len P2]; exact l2, ?_⟩⟩⟩
  have PP := pendL_app (P1.step R1 kp2 sub2 b2 b2') (pendL_start kp P2)
  have bb : ∀ a, B a → B2 a := fun a z => b2 a (b1 a z)
  obtain ⟨ds, ρ3, ⟨hl, hC⟩, R3, s3, r3⟩ := frzL_ok (B0 := B) (H0 := H) bb R.btr R2 PP q
  rw [← hl]
  exact sp_ok (R3.fewer bb) r3 ((sub.trans sub2).trans s3) (kp.trans kp2 fun a z => sub.own a z) hC hq
structure CalleeN (P : Program) (w : World) (K : PySem.W.Frag) (mg : Str → Option Value) (base : Heap) (k : Nat) (x : Str) (ps : List Str) (n : Nat) (ks : List Str) (C : WE) : Prop where
  ex : ∃ (f : Addr) (fd : FuncData), FnG P w K mg base CX0 k f fd ps (spOf K ps.length C) ∧ mg x = some (.ref f) ∧ PySem.W.keepIn K (.ref f) = true ∧ ∀ (s : Shared) (us ws : List Value), K.In s.heap → us.length = n → ws.length = ks.length → BindsTo s fd ⟨us, ks.zip ws⟩ (ps.zip (us ++ ws))
theorem CalleeN.callN {X : Cx} {k n : Nat} {x : Str} {ps ks : List Str} {C : WE} {p pos : Pos} {e : Expr} {es : List Expr} {kws : List Keyword} {ws us : List WE} (c : CalleeN X.prog X.w X.K X.mg X.base k x ps n ks C) (hr : Room k X.A) (hgu : X.A.guards = some []) (hg : Gl X x) (ha : MA X (e :: es) ws) (hkw : MK X kws us)
    (hn : ws.length = n := by rfl) (hn1 : us.length = ks.length := by rfl) (hn2 : (ws ++ us).length = ps.length := by rfl) (hall : (backToKw pos (keywordEach kws X.env)).all (·.1.isSome) = true := by rfl) (hks : (backToKw pos (keywordEach kws X.env)).filterMap (·.1) = ks := by rfl)
    (hdb : (x == ("__debug__" : Str)) = false := by decide) (he : starEach (e :: es) X.env = (false, eval e X.env) :: starEach es X.env := by rfl) (hpl : ((backTo pos (starEach (e :: es) X.env)).any (·.1) || (backToKw pos (keywordEach kws X.env)).any (·.1.isNone)) = false := by rfl) :
    ME X (.Call (.Name x p) (e :: es) kws pos) (wCallPK C ws us) := by
  obtain ⟨f, fd, F, hm, hk, hb⟩ := c.ex
  rw [← hn2, List.length_append] at F
  refine ⟨fun pins s σ H Q I ⟨B, ρ, Q', R, hw, hq⟩ => ?_⟩
  refine wpAny_Call_Name_kw (ld_glob I hg hm ?_ hdb)
  refine PySem.W.callWith_KW (h₀ := X.base) I.ok.mod.kin hk hall (thn (PA.run ha pos pins s σ H _ I (callPK_ok (E := E0) R hw hq)) fun vu s1 ⟨vs, H1, I1, r, l1, q⟩ => ?_) hpl he
  refine thn (PK.run hkw pos pins s1 σ H1 _ I1 q) fun zu s2 ⟨zs, H2, I2, rz, l2, q2⟩ => ⟨I2.kIn, ?_⟩
  rw [hks]
  have e1 : vu.length = n := by rw [← r.length, l1, hn]
  have e2 : zu.length = ks.length := by rw [← rz.length, l2, hn1]
  refine wpAny_call (codeAny_mono (F.run X.A X.stack s2 H2 ⟨vu, ks.zip zu⟩ (vu ++ zu) (vs ++ zs) Q E0 hr hgu I2.env0 (hb s2 vu zu I2.kIn e1 e2) (r.append rz) q2) fun res s' hq => ?_)
  match res, hq with
  | .ok (.ret u), hq => exact I2.after hq
  | .ok .next, hq => exact hq.elim
  | .ok .brk, hq => exact hq.elim
  | .ok .cont, hq => exact hq.elim
  | .error e, hq => exact hq.elim
end Dl
namespace Dl
open PySem L2 PySem.Spec PyProof.Rows
variable [TabN]
section
variable {X : Cx} {e : Expr} {w1 : WE}
end
section
variable {X : Cx} {e : Expr} {w1 : WE}
end
end Dl
namespace Dl
open PySem L2 PySem.Spec PyProof.Rows
variable [TabN]
end Dl
namespace Dl
open PySem L2 PySem.Spec PyProof.Rows
variable [TabN]
section
variable {X : Cx} {CX : CXT} {k : Nat} {f : Addr} {fd : FuncData} {ps : List Str} {sp : Sp} {dvs : List V} {dus : List Value} {E : XK} {x : Str} {p pos : Pos} {e : Expr} {es : List Expr} {t : TA}
end
end Dl
namespace Dl
open PySem L2 PySem.Spec PyProof.Rows
variable [TabN]
def IsPairS (h : Heap) (v : Value) (x : Str) (y : Int) : Prop := ∃ a o t u n, v = .ref a ∧ h.get? a = some o ∧ o.cls = .type "tuple" ∧ o.data = .seq #[.str x t, .int y u] n
theorem IsPairS.keeps {h h' : Heap} {v : Value} {x : Str} {y : Int} (p : IsPairS h v x y) (k : ∀ b o, h.get? b = some o → o.cls = .type "tuple" → h'.get? b = some o) : IsPairS h' v x y := by
  obtain ⟨a, o, t, u, n, e, ho, hc, hd⟩ := p
  exact ⟨a, o, t, u, n, e, k _ _ ho hc, hc, hd⟩
section
variable {prog : Program} {w : World} {A : Around} {E : Value → Shared → Prop} {s : Shared}
end
section
variable {X : Cx}
end
end Dl
namespace Zl
open PySem PySem.Spec PyProof.Rows
structure ZSt (z TI TO i1 i2 l1 l2 S : Addr) (xs ys : Array Value) (i : Nat) (h : Heap) : Prop where
  tI : IsPair h TI (.ref i1) (.ref i2)
  h1 : h.IsListIter i1 l1 i
  h2 : h.IsListIter i2 l2 i
  l1 : h.IsList l1 xs
  l2 : h.IsList l2 ys
  hz : (IsZip h z TI TO .none ∧ ∃ a b, IsPair h TO a b) ∨ ∃ T f oT, IsZipHeld h z TI TO T f ∧ h.get? T = some oT ∧ T ≠ z ∧ T ≠ i1 ∧ T ≠ i2 ∧ T ≠ S
structure ZG (xs ys : Array Value) (lo : Addr) (h : Heap) (as : List Addr) : Prop where
  rise : as.Pairwise (· < ·)
  above : ∀ a ∈ as, lo < a
  pairs : ∀ (j : Nat) (a : Addr), as[j]? = some a → ∃ x y, xs[j]? = some x ∧ ys[j]? = some y ∧ h.get? a = some { cls := .type "tuple", data := .seq #[x, y] }
structure Off (S z TI TO i1 i2 l1 l2 : Addr) : Prop where
  z : z < S
  TI : TI < S
  TO : TO < S
  i1 : i1 < S
  i2 : i2 < S
  l1 : l1 < S
  l2 : l2 < S
section
variable {prog : Program} {w : World} {A : Around} {E : Value → Shared → Prop} {s : Shared} {z TI TO i1 i2 l1 l2 S : Addr} {xs ys : Array Value}
variable {R : Result → Shared → Prop}
theorem ZSt.zip {i : Nat} {h : Heap} (st : ZSt z TI TO i1 i2 l1 l2 S xs ys i h) : ∃ v f, h.get? z = some { cls := .type "zip", dict := none, data := .fields #[v, .bool f, .bool false, .ref TI, .ref TO], slots := #[] } := by
  rcases st.hz with ⟨hz, _⟩ | ⟨T, f, oT, hz, _⟩
  · exact ⟨_, _, hz⟩
  · exact ⟨_, _, hz⟩
end
end Zl
namespace Zl
open PySem PySem.Spec PyProof.Rows L2
def putP : Hp → List Addr → List (V × V) → Hp
  | H, a :: as, p :: ps => putP (upd H a (.tup [p.1, p.2])) as ps
  | H, _, _ => H
theorem putP_off {b : Addr} : ∀ (as : List Addr) (ps : List (V × V)) (H : Hp), b ∉ as → putP H as ps b = H b
  | [], _, _, _ => rfl
  | _ :: _, [], _, _ => rfl
  | a :: as, p :: ps, H, h => by
    show putP (upd H a (.tup [p.1, p.2])) as ps b = H b
    rw [putP_off as ps _ (fun z => h (List.mem_cons_of_mem _ z)), upd_ne (fun z => h (by rw [z]; exact List.mem_cons_self))]
theorem putP_at : ∀ (as : List Addr) (ps : List (V × V)) (H : Hp), as.length = ps.length → as.Nodup → ∀ (j : Nat) (a : Addr), as[j]? = some a → ∃ p, ps[j]? = some p ∧ putP H as ps a = some (.tup [p.1, p.2])
  | [], [], _, _, _, j, a, h => by simp at h
  | [], _ :: _, _, h, _, _, _, _ => by cases h
  | _ :: _, [], _, h, _, _, _, _ => by cases h
  | a :: as, p :: ps, H, h, hn, j, b, hj => by
    have hn' := List.nodup_cons.mp hn
    cases j with
    | zero =>
      have : a = b := by simpa using hj
      subst this
      refine ⟨p, rfl, ?_⟩
      show putP (upd H a (.tup [p.1, p.2])) as ps a = _
      rw [putP_off as ps _ hn'.1, upd_same]
    | succ j =>
      obtain ⟨q, e1, e2⟩ := putP_at as ps (upd H a (.tup [p.1, p.2])) (Nat.succ.inj h) hn'.2 j b (by simpa using hj)
      exact ⟨q, by simpa using e1, e2⟩
section
variable {X : Cx}
theorem zip_laid {pins : List (Addr × Obj)} {σ : L2.St} {H : Hp} {s : Shared} {h' : Heap} {tk : Nat} {xs ys : List V} {its jts : List Value} {acc : Array Value} {c : Nat} {S : Addr} {as : List Addr} (I : Inv X pins σ H s) (hz : xs.length ≤ sizeLine) (rx : Vals xs its) (ry : Vals ys jts)
    (hk : ∀ b o, s.heap.get? b = some o → h'.get? b = some o) (hS0 : s.heap.objs.size ≤ S) (hS : h'.get? S = some { cls := .type "list", dict := none, data := .seq acc c, slots := #[] }) (hl : as.length = min its.length jts.length) (hG : ZG its.toArray jts.toArray S h' as) (hacc : acc.toList = as.map Value.ref) :
    ∃ H' : Hp, (∀ b o, H b = some o → H' b = some o) ∧ H S = none ∧ (∀ t ∈ as, H t = none) ∧ S ∉ as ∧ H' S = some (.lst (as.map V.ref)) ∧ as.length = min xs.length ys.length ∧ (∀ (j : Nat) (t : Addr), as[j]? = some t → ∃ x y, xs[j]? = some x ∧ ys[j]? = some y ∧ H' t = some (.tup [x, y])) ∧
      Inv X pins σ H' { s with heap := h', toks := tk } := by
  have lx := rx.length
  have ly := ry.length
  have hlz : as.length = (xs.zip ys).length := by rw [hl, List.length_zip, lx, ly]
  have hSn : S ∉ as := fun z => Nat.lt_irrefl _ (hG.above _ z)
  have nd : as.Nodup := List.Pairwise.imp (fun {a b} (h : a < b) => Nat.ne_of_lt h) hG.rise
  have new : ∀ t ∈ as, H t = none := fun t ht => I.hok.fresh (Nat.le_trans hS0 (Nat.le_of_lt (hG.above t ht)))
  have newS : H S = none := I.hok.fresh hS0
  have atP := putP_at as (xs.zip ys) (upd H S (.lst (as.map V.ref))) hlz nd
  have off : ∀ b, b ∉ as → b ≠ S → putP (upd H S (.lst (as.map V.ref))) as (xs.zip ys) b = H b := fun b h1 h2 => by rw [putP_off as _ _ h1, upd_ne h2]
  have low : ∀ b o, s.heap.get? b = some o → b ∉ as ∧ b ≠ S := fun b o e => ⟨fun z => absurd (Heap.lt_size e) (Nat.not_lt.mpr (Nat.le_trans hS0 (Nat.le_of_lt (hG.above b z)))), Nat.ne_of_lt (Nat.lt_of_lt_of_le (Heap.lt_size e) hS0)⟩
  have kp : ∀ b u, H b = some u → (putP (upd H S (.lst (as.map V.ref))) as (xs.zip ys)) b = some u := fun b u e => by
    rw [off b (fun z => by rw [new b z] at e; cases e) (fun z => by rw [z, newS] at e; cases e)]
    exact e
  have eS : putP (upd H S (.lst (as.map V.ref))) as (xs.zip ys) S = some (.lst (as.map V.ref)) := by rw [putP_off as _ _ hSn, upd_same]
  have prs : ∀ (j : Nat) (t : Addr), as[j]? = some t → ∃ x y, xs[j]? = some x ∧ ys[j]? = some y ∧ putP (upd H S (.lst (as.map V.ref))) as (xs.zip ys) t = some (.tup [x, y]) := fun j t e => by
    obtain ⟨p, e1, e2⟩ := atP j t e
    rw [List.getElem?_zip_eq_some] at e1
    exact ⟨p.1, p.2, e1.1, e1.2, e2⟩
  refine ⟨_, kp, newS, new, hSn, eS, by rw [hlz, List.length_zip], prs, ?_⟩
  refine I.call' (ch := []) rfl ⟨fun b o q _ _ _ => hk b o q, fun b o q _ _ _ => ⟨o.slots, hk b o q⟩, fun b o q n _ => ?_, fun b o q _ => ⟨o, hk b o q⟩, fun b xs q => kp b _ q, fun b o u q => kp b _ q, fun b ps q => ⟨#[], by rw [kp b _ q]; simp⟩⟩ (fun b u q => ?_) I.bare fun b z => by simp at z
  · obtain ⟨z1, z2⟩ := low b o q
    rw [off b z1 z2]
    exact n
  · by_cases hb : b ∈ as
    · obtain ⟨j, hj⟩ := List.mem_iff_getElem?.mp hb
      obtain ⟨x, y, e1, e2, e3⟩ := prs j b hj
      rw [e3] at q
      cases q
      obtain ⟨u, v, f1, f2, f3⟩ := hG.pairs j b hj
      obtain ⟨u', g1, ru⟩ := rx.get e1
      obtain ⟨v', g2, rv⟩ := ry.get e2
      have f1' : its[j]? = some u := by simpa using f1
      have f2' : jts[j]? = some v := by simpa using f2
      rw [g1] at f1'
      rw [g2] at f2'
      cases f1'
      cases f2'
      exact ⟨by show 2 ≤ sizeLine; decide, [u, v], .cons ru (.cons rv .nil), ⟨_, f3, rfl, _, rfl⟩⟩
    · by_cases hb2 : b = S
      · rw [hb2] at q ⊢
        rw [eS] at q
        cases q
        refine ⟨by rw [List.length_map, hlz, List.length_zip]; omega, acc.toList, c, by rw [hacc]; exact LiI.vals_refs as, ?_⟩
        rw [Array.toArray_toList]
        exact hS
      · rw [off b hb hb2] at q
        exact (I.hok b u q).stay (fun d v _ y => hk d v y) (fun d y => kp d _ y) fun d xs y => kp d _ y
end
end Zl
namespace Dl
open PySem L2
variable [TabN]
end Dl
namespace Dl
open PySem PySem.Spec PyProof.Rows L2
variable [TabN]
end Dl
set_option maxHeartbeats 1000000
namespace Zm
open PySem PySem.Spec PyProof.Rows L2
def SIt (b : Bool) (h : Heap) (it l : Addr) (i : Nat) : Prop := match b with
  | true => h.IsTupleIter it l i
  | false => h.IsListIter it l i
def SAt (b : Bool) (h : Heap) (l : Addr) (items : Array Value) : Prop := match b with
  | true => h.IsTuple l items
  | false => h.IsList l items
theorem SIt.at {b : Bool} {h h' : Heap} {it l : Addr} {i : Nat} (x : SIt b h it l i) (e : ∀ o, h.get? it = some o → h'.get? it = some o) : SIt b h' it l i := by
  cases b with
  | true => exact Heap.IsTupleIter.at x e
  | false => exact Heap.IsListIter.at x e
theorem SAt.at {b : Bool} {h h' : Heap} {l : Addr} {its : Array Value} (x : SAt b h l its) (e : ∀ o, h.get? l = some o → h'.get? l = some o) : SAt b h' l its := by
  cases b with
  | true => exact Heap.IsTuple.at x e
  | false => exact Heap.IsList.at x e
theorem SIt.obj {b : Bool} {h : Heap} {it l : Addr} {i : Nat} (x : SIt b h it l i) : ∃ o, h.get? it = some o ∧ ∀ v, o.data ≠ .cell v := by
  cases b with
  | true => obtain ⟨o, e, _, d⟩ := x; exact ⟨o, e, fun v q => by rw [d] at q; cases q⟩
  | false => obtain ⟨o, e, _, d⟩ := x; exact ⟨o, e, fun v q => by rw [d] at q; cases q⟩
theorem SAt.lt {b : Bool} {h : Heap} {l : Addr} {its : Array Value} (x : SAt b h l its) : l < h.objs.size := by
  cases b with
  | true => obtain ⟨o, e, _⟩ := x; exact Heap.lt_size e
  | false => obtain ⟨o, e, _⟩ := x; exact Heap.lt_size e
section
variable {X : Cx} {pins : List (Addr × Obj)} {σ : L2.St} {H : Hp} {s : Shared}
end
end Zm
namespace Dl
open PySem L2
variable [TabN]
end Dl
namespace Dl
open PySem L2
variable [TabN]
section
variable {X : Cx}
end
end Dl
namespace Dl
open PySem L2
variable [TabN]
end Dl
namespace Dl
open PySem L2 PySem.Spec PyProof.Rows
variable [TabN]
theorem ta_wC {K : PySem.W.Frag} {v : V} {d : D} {σ : L2.St} {H : Hp} {P : List V → Hp → Prop} (r : ∀ A H, RepV K A H v d) (h : taOf K [wC d] σ H P) : P [v] H := by
  obtain ⟨B, ρ, Q', R, hw, hq⟩ := h
  exact hq [.fro d] [v] ρ B H (fun _ z => z) (fun _ z => .inl z) R ⟨r _ _, trivial⟩ (Sub.refl ρ) Kp.refl hw
theorem ta_mono {K : PySem.W.Frag} {ws : List WE} {σ : L2.St} {H : Hp} {P P' : List V → Hp → Prop} (h : taOf K ws σ H P) (hp : ∀ vs H1, P vs H1 → P' vs H1) : taOf K ws σ H P' := by
  obtain ⟨B, ρ, Q', R, hw, hq⟩ := h
  exact ⟨B, ρ, Q', R, hw, fun ss vs ρ' B' H' a b c d e f g => hp _ _ (hq ss vs ρ' B' H' a b c d e f g)⟩
structure CalleeD (P : Program) (w : World) (K : PySem.W.Frag) (mg : Str → Option Value) (base : Heap) (k : Nat) (x : Str) (ps : List Str) (d : D) (C : WE) : Prop where
  ex : ∃ (f : Addr) (fd : FuncData) (v : V) (us : List Value), FnG P w K mg base CX0 k f fd ps (spOf K ps.length C) ∧ mg x = some (.ref f) ∧ PySem.W.keepIn K (.ref f) = true ∧ (∀ A H, RepV K A H v d) ∧ Vals [v] us ∧ Binds K fd ps us
theorem CalleeD.call {X : Cx} {k : Nat} {x : Str} {ps : List Str} {d : D} {C : WE} {p pos : Pos} {e : Expr} {es : List Expr} {ws : List WE} (c : CalleeD X.prog X.w X.K X.mg X.base k x ps d C) (hr : Room k X.A) (hgu : X.A.guards = some []) (hg : Gl X x) (ha : MA X (e :: es) ws)
    (hn : ws.length + 1 = ps.length := by rfl) (hdb : (x == ("__debug__" : Str)) = false := by decide) (he : starEach (e :: es) X.env = (false, eval e X.env) :: starEach es X.env := by rfl) (hpl : (backTo pos (starEach es X.env)).any (·.1) = false := by rfl) :
    ME X (.Call (.Name x p) (e :: es) [] pos) (wCallPK C ws [wC d]) := by
  obtain ⟨f, fd, v, us, F, hm, hk, hv, hd, hb⟩ := c.ex
  rw [← hn] at F
  exact me_of (pe_callG (E := E0) F hr hgu hg hm hk hb hd (fun _ _ _ _ _ _ _ h => h.elim) ha hdb he hpl) fun B ρ σ H Q' Q R hw hq =>
    ta_mono (callPK_ok (E := E0) R hw hq) fun vs H1 h => (ta_wC hv h.2).2
end Dl
namespace Dl
open PySem PySem.Spec PyProof.Rows L2
variable [TabN]
def ExcAt (K : PySem.W.Frag) (A : Addr → Prop) (H : Hp) (cls : Value) (d : Option Addr) (c f : Str) (v : D) : Prop :=
  ∃ (C dd : Addr) (x : V), cls = .ref C ∧ d = some dd ∧ ClsAt K c C ∧ H dd = some (.xd [(f, x)]) ∧ RepV K A H x v
theorem ExcAt.av {K : PySem.W.Frag} {A A' : Addr → Prop} {H : Hp} {cls : Value} {d : Option Addr} {c f : Str} {v : D} (e : ExcAt K A H cls d c f v) (h : ∀ a, A' a → A a) : ExcAt K A' H cls d c f v := by
  obtain ⟨C, dd, x, h1, h2, h3, h4, h5⟩ := e
  exact ⟨C, dd, x, h1, h2, h3, h4, h5.av h⟩
abbrev XD := Str → Str → D → Prop
abbrev XS := Str → Str → D → List Slot → Prop
abbrev WEX := XS → WE
abbrev WSX := XS → WS
def tOfX (K : PySem.W.Frag) (W : WX) (w : WEX) : TE := fun σ H Q => ∃ (B : Addr → Prop) (ρ : List Slot) (Q' : Slot → List Slot → Prop) (ex : XS), Rep K B ρ σ H ∧ w ex ρ Q' ∧
  (∀ s v ρ' H', Post K B ρ' σ H H' s v → Sub ρ' ρ → Kp (Own ρ σ) H H' → Q' s ρ' → Q v H') ∧
  (∀ c f v cls d ρ' H', Rep K B ρ' σ H' → Sub ρ' ρ → Kp (Own ρ σ) H H' → ExcAt K (Av B ρ' σ) H' cls d c f v → ex c f v ρ' → W cls d σ H')
def MEX (X : Cx) (W : WX) (e : Expr) (w : WEX) : Prop := PE X e (tOfX X.K W w)
section
variable {X : Cx} {W : WX} {st : Stmt} {rest : List Stmt} {v1 : WS} {w1 w2 : WSX} {e c : Expr} {w : WEX} {t : WT} {pos : Pos}
end
end Dl
namespace Dl
open PySem PySem.Spec PyProof.Rows L2
variable [TabN]
structure Raiser (P : Program) (K : PySem.W.Frag) (mg : Str → Option Value) (c f : Str) : Prop where
  ex : ∃ (C fI : Addr) (qual : Str) (args : Arguments) (body : List Stmt) (scope : Scope), SupX.SupTxt P K qual f args body scope C fI ∧ SupX.SupBody f args body scope ∧ mg c = some (.ref C) ∧ PySem.W.keepIn K (.ref C) = true ∧ ClsAt K c C
def allFro (args : List Slot) : Prop := ∀ (i : Nat) (s : Slot), Hold s → args[i]? ≠ some s
theorem allFro.no {args : List Slot} (h : allFro args) : noOwn args := fun i o => h i (.own false o) trivial
theorem allFro.own {args : List Slot} (h : allFro args) {σ : L2.St} {a : Addr} (z : Own args σ a) : False := by
  rcases z with ⟨i, b, o, e, _⟩ | ⟨i, S, e, _⟩
  · exact h i (.own b o) trivial e
  · exact h i (.sto S) trivial e
theorem allFro_map (ds : List D) : allFro (ds.map .fro) := fun i s hs e => fros_hold e hs
abbrev WDX := XD → WE
def spX (K : PySem.W.Frag) (n : Nat) (C : WDX) : Sp := fun vs H Q E => vs.length = n ∧ ∃ (B : Addr → Prop) (args : List Slot) (Q' : Slot → List Slot → Prop) (ex : XD), Rep K B args (vs.map some) H ∧ args.length = vs.length ∧ allFro args ∧ C ex args Q' ∧
  (∀ s v ρ' H', Post K B ρ' (vs.map some) H H' s v → Sub ρ' args → Kp (Own args (vs.map some)) H H' → Q' s ρ' → Q v H') ∧
  (∀ c f v cls d H', Kp (fun _ => False) H H' → ExcAt K B H' cls d c f v → ex c f v → E cls d H')
theorem pe_callGX {X : Cx} {CX : CXT} {k : Nat} {f : Addr} {fd : FuncData} {ps : List Str} {sp : Sp} {E : L2.St → XK} {x : Str} {p pos : Pos} {e : Expr} {es : List Expr} {t : TA}
    (F : FnG X.prog X.w X.K X.mg X.base CX k f fd ps sp) (hr : Room k X.A) (hgu : X.A.guards = some []) (hg : Gl X x) (hm : X.mg x = some (.ref f)) (hk : PySem.W.keepIn X.K (.ref f) = true) (hb : Binds X.K fd ps []) (hx : ∀ σ, PassesAt CX X σ (E σ))
    (ha : PA X (e :: es) t) (hdb : (x == ("__debug__" : Str)) = false := by decide) (he : starEach (e :: es) X.env = (false, eval e X.env) :: starEach es X.env := by rfl) (hpl : (backTo pos (starEach es X.env)).any (·.1) = false := by rfl) :
    PE X (.Call (.Name x p) (e :: es) [] pos) (tCallS sp E t) := by
  refine ⟨fun pins s σ H Q I h => ?_⟩
  refine wpAny_Call_Name_kw (ld_glob I hg hm ?_ hdb)
  refine PySem.W.callWith_K (h₀ := X.base) I.ok.mod.kin hk (thn (ha.run pos pins s σ H _ I h) fun us s1 ⟨vs, H1, I1, r, q⟩ => ⟨I1.kIn, ?_⟩) he hpl
  have hl : us.length = ps.length := by rw [← r.length]; exact F.len _ _ _ _ q
  have b := hb s1 us I1.kIn (by rw [List.append_nil]; exact hl)
  rw [List.append_nil] at b
  refine wpAny_call (codeAny_mono (F.run X.A X.stack s1 H1 ⟨us, []⟩ us vs Q (E σ) hr hgu I1.env0 b r q) fun res s' hq => ?_)
  match res, hq with
  | .ok (.ret u), hq => exact I1.after hq
  | .ok .next, hq => exact hq.elim
  | .ok .brk, hq => exact hq.elim
  | .ok .cont, hq => exact hq.elim
  | .error e, hq => exact hx σ pins H1 s1 e s' I1 hq
structure CalleeX (P : Program) (w : World) (K : PySem.W.Frag) (mg : Str → Option Value) (base : Heap) (k : Nat) (x : Str) (ps : List Str) (C : WDX) : Prop where
  ex : ∃ (f : Addr) (fd : FuncData), FnG P w K mg base (L2.CX P w) k f fd ps (spX K ps.length C) ∧ mg x = some (.ref f) ∧ PySem.W.keepIn K (.ref f) = true ∧ Binds K fd ps []
def wCallX (C : WDX) (ws : List WE) : WEX := fun ex ρ Q => wArgs ws ρ fun ss ρ1 => frzL ρ1 ss fun ds ρ2 => ds.length = ws.length ∧ C (fun c f v => ex c f v ρ2) (ds.map .fro) fun r _ => match r with
  | .fro d => Q (.fro d) ρ2
  | .own _ o => Q (.own false o) ρ2
  | _ => False
theorem callX_ok {K : PySem.W.Frag} {C : WDX} {B : Addr → Prop} {ρ : List Slot} {σ : L2.St} {H : Hp} {ws : List WE} {W : WX} {Q' : Slot → List Slot → Prop} {Q : VK} {ex : XS} (R : Rep K B ρ σ H) (hw : wCallX C ws ex ρ Q')
    (hq : ∀ s v ρ' H', Post K B ρ' σ H H' s v → Sub ρ' ρ → Kp (Own ρ σ) H H' → Q' s ρ' → Q v H')
    (hx : ∀ c f v cls d ρ' H', Rep K B ρ' σ H' → Sub ρ' ρ → Kp (Own ρ σ) H H' → ExcAt K (Av B ρ' σ) H' cls d c f v → ex c f v ρ' → W cls d σ H') :
    taOf K ws σ H fun vs H1 => spX K ws.length C vs H1 Q (L2.WE W σ) := by
  refine args_frz R hw fun ds vs ρ2 H2 R2 r sub kp ⟨hl, hC⟩ => ?_
  refine ⟨by rw [r.length]; exact hl, Av B ρ2 σ, ds.map .fro, _, _, repL_rep (fun a z => R2.av_trk z) R2.tabs r, by rw [List.length_map, r.length], allFro_map ds, hC, fun s v ρ' H' post _ k3 h => ?_, fun c f v cls d H' k3 ea h => ?_⟩
  · have ex : Kp (fun _ => False) H2 H' := k3.mono fun a z => (allFro_map ds).own z
    have k' : Kp (Own ρ σ) H H' := kp.trans (ex.mono fun _ z => z.elim) fun _ z => z
    match s, post, h with
    | .fro d, post, h => exact hq _ _ ρ2 H' (postF (R2.same ex fun a z => .inl z) (post.2.av fun a z => .inr z)) sub k' h
    | .own b o, ⟨a, hv, n, nb, R', q⟩, h =>
      subst hv
      refine hq _ _ ρ2 H' (postO (b := false) (kp.back n) (fun z => R2.btr a z n) (R2.same ex fun x z => z.elim .inl fun z => .inr ⟨by rw [z]; exact n, by rw [z]; exact q.trk⟩) (q.av fun x z => ?_)) sub k' h
      rcases z with z | z | z
      · exact .inr (.inl (.inl z))
      · exact .inr (.inl (.inr z))
      · exact .inr (.inr z)
  · exact hx c f v cls d ρ2 H' (R2.same k3 fun a z => .inl z) sub (kp.trans (k3.mono fun _ z => z.elim) fun _ z => z) ea h
theorem CalleeX.call {X : Cx} {W : WX} {k : Nat} {x : Str} {ps : List Str} {C : WDX} {p pos : Pos} {e : Expr} {es : List Expr} {ws : List WE} (c : CalleeX X.prog X.w X.K X.mg X.base k x ps C) (tk : Takes X W) (hr : Room k X.A) (hgu : X.A.guards = some []) (hg : Gl X x) (ha : MA X (e :: es) ws) (hn : ws.length = ps.length := by rfl) (hdb : (x == ("__debug__" : Str)) = false := by decide)
    (he : starEach (e :: es) X.env = (false, eval e X.env) :: starEach es X.env := by rfl) (hpl : (backTo pos (starEach es X.env)).any (·.1) = false := by rfl) : MEX X W (.Call (.Name x p) (e :: es) [] pos) (wCallX C ws) := by
  obtain ⟨f, fd, F, hm, hk, hb⟩ := c.ex
  rw [← hn] at F
  exact PE_weak (pe_callGX (E := L2.WE W) F hr hgu hg hm hk hb (passAt tk) ha hdb he hpl) fun σ H Q ⟨B, ρ, Q', ex, R, hw, hq, hx⟩ => callX_ok R hw hq hx
end Dl
namespace Dl
open PySem PySem.Spec PyProof.Rows L2
variable [TabN]
def unN (i : Option Nat) (σ : L2.St) : L2.St := match i with
  | some i => σ.set i none
  | none => σ
def endsN (i : Option Nat) (D : Ends) : Ends := { nx := fun σ H => D.nx (unN i σ) H, rt := D.rt, bk := fun σ H => D.bk (unN i σ) H, ct := fun σ H => D.ct (unN i σ) H }
def setN (i : Option Nat) (a : Addr) (σ : L2.St) : L2.St := match i with
  | some i => σ.set i (some (.ref a))
  | none => σ
def wKeep (K : PySem.W.Frag) (Wout : WX) (D : Ends) : List (Value × Option Nat × TS) → WX
  | [] => Wout
  | (c, i, ts) :: r => fun cls d σ H => ∃ b, PySem.W.exmOne K cls c = some b ∧ (b = true → ∀ a, H a = none → ts (endsN i D) (setN i a σ) (L2.upd H a (ExcO cls d a))) ∧ (b = false → wKeep K Wout D r cls d σ H)
inductive HdsK (X : Cx) : List ExceptHandler → List (Value × Option Nat × TS) → Prop
  | nil : HdsK X [] []
  | as {x n : Str} {c : Value} {i : Nat} {ts : TS} {b₀ : Stmt} {suite : List Stmt} {np pos' : Pos} {hds : List ExceptHandler} {l : List (Value × Option Nat × TS)} (hc : Names X x c) (hi : X.N[i]? = some n) (hln : X.env.kindOf n = some .local)
      (hsu : ∀ (a : Addr) (pn : List (Addr × Obj)), PSs (X.suite a pn) (b₀ :: suite) ts) (r : HdsK X hds l) : HdsK X (.ExceptHandler (some (.Name x np)) (some n) (b₀ :: suite) pos' :: hds) ((c, some i, ts) :: l)
  | only {x : Str} {c : Value} {ts : TS} {b₀ : Stmt} {suite : List Stmt} {np pos' : Pos} {hds : List ExceptHandler} {l : List (Value × Option Nat × TS)} (hc : Names X x c)
      (hsu : ∀ (a : Addr) (pn : List (Addr × Obj)), PSs (X.suite a pn) (b₀ :: suite) ts) (r : HdsK X hds l) : HdsK X (.ExceptHandler (some (.Name x np)) none (b₀ :: suite) pos' :: hds) ((c, none, ts) :: l)
section
variable {X : Cx} {body : List Stmt} {h₀ : ExceptHandler} {hds : List ExceptHandler} {l : List (Value × Option Nat × TS)} {pos : Pos} {tb : WX → TS} {Wout : WX}
end
end Dl
namespace Dl
open PySem PySem.Spec PyProof.Rows L2
variable [TabN]
def isSubC (c x : Str) : Bool := decide (x = "FactsError") || (decide (x = "ValueError") || decide (c = x))
structure ErrK (K : PySem.W.Frag) (cs : List (Str × Str)) : Prop where
  at' : ∀ p ∈ cs, ∀ C, ClsAt K p.1 C → ExcC K C ∧ XfC K C ∧ PySem.W.findIn K (.ref C) p.2 = some none
structure Catcher (K : PySem.W.Frag) (mg : Str → Option Value) (x : Str) (cs : List (Str × Str)) : Prop where
  ex : ∃ (v : V) (u : Value), RelV v u ∧ (∀ u', RelV v u' → u' = u) ∧ (mg x = some u ∨ (mg x = none ∧ bootBuiltins x = some u ∧ x ≠ "__name__")) ∧
    ∀ p ∈ cs, ∀ C, ClsAt K p.1 C → PySem.W.exmOne K (.ref C) u = some (isSubC p.1 x) ∧ PySem.W.kitOne K (.ref C) u = some (isSubC p.1 x)
def noOwnAt (ρ : List Slot) (i : Nat) : Prop := ∀ s, Hold s → ρ[i]? ≠ some s
theorem own_unset {ρ : List Slot} {σ : L2.St} {i : Nat} {x : Option V} (h : noOwnAt ρ i) (a : Addr) : Own (ρ.set i .nil) (σ.set i x) a ↔ Own ρ σ a := by
  constructor
  · rintro (⟨j, b, o, e1, e2⟩ | ⟨j, S, e1, e2⟩)
    · rcases getElem?_set_of e1 with ⟨_, z⟩ | ⟨n, z⟩
      · cases z
      · rw [List.getElem?_set_ne n] at e2; exact .inl ⟨j, b, o, z, e2⟩
    · rcases getElem?_set_of e1 with ⟨_, z⟩ | ⟨n, z⟩
      · cases z
      · exact .inr ⟨j, S, z, e2⟩
  · rintro (⟨j, b, o, e1, e2⟩ | ⟨j, S, e1, e2⟩)
    · have n : i ≠ j := fun z => h (.own b o) trivial (by rw [z]; exact e1)
      exact .inl ⟨j, b, o, by rw [List.getElem?_set_ne n]; exact e1, by rw [List.getElem?_set_ne n]; exact e2⟩
    · have n : i ≠ j := fun z => h (.sto S) trivial (by rw [z]; exact e1)
      exact .inr ⟨j, S, by rw [List.getElem?_set_ne n]; exact e1, e2⟩
theorem Rep.unset {K : PySem.W.Frag} {B : Addr → Prop} {ρ : List Slot} {σ : L2.St} {H : Hp} {i : Nat} (R : Rep K B ρ σ H) (h : noOwnAt ρ i) : Rep K B (ρ.set i .nil) (σ.set i none) H := by
  have av : ∀ a, Av B (ρ.set i .nil) (σ.set i none) a → Av B ρ σ a := fun a z => z.elim (fun z => .inl ((own_unset h a).1 z)) .inr
  refine ⟨R.shp.of (by rw [List.length_set, List.length_set]; exact R.len) (fun j s e => ?_) (fun j b o a e1 e2 => ?_) (fun j S e => ?_), fun j s e => ?_, R.btr, fun a z => R.dis a ((own_unset h a).1 z), R.tabs⟩
  · rw [List.length_set]
    have hj := (List.getElem?_eq_some_iff.mp e).1
    rw [List.length_set] at hj
    rcases R.tail j _ (List.getElem?_eq_getElem hj) with z | ⟨S, z⟩
    · exact .inl z
    · have ej : ρ[j]? = some (.sto S) := by rw [List.getElem?_eq_getElem hj, z]
      have n : i ≠ j := fun q => h (.sto S) trivial (by rw [q]; exact ej)
      rw [List.getElem?_set_ne n, ej] at e; cases e; exact .inr ⟨S, rfl⟩
  · rcases getElem?_set_of e1 with ⟨_, z⟩ | ⟨n, z⟩
    · cases z
    · rw [List.getElem?_set_ne n] at e2; exact ⟨b, o, z, e2⟩
  · rcases getElem?_set_of e with ⟨_, z⟩ | ⟨n, z⟩
    · cases z
    · exact ⟨S, z, fun _ z => z⟩
  · rcases getElem?_set_of e with ⟨_, rfl⟩ | ⟨n, z⟩
    · trivial
    · rw [List.getElem?_set_ne n]
      exact (R.slot j s z).av av
theorem Fr.unset {H0 : Hp} {L : LT} {ρ : List Slot} {σ : L2.St} {H : Hp} {i : Nat} (F : Fr H0 L ρ σ H) (h : noOwnAt ρ i) : Fr H0 L (ρ.set i .nil) (σ.set i none) H where
  keep := fun a o e n t => F.keep a o e n t
  imm := F.imm
  trk := F.trk
  ownf := fun j o a e1 e2 => by
    rcases getElem?_set_of e1 with ⟨_, z⟩ | ⟨n, z⟩
    · cases z
    · rw [List.getElem?_set_ne n] at e2; exact F.ownf j o a z e2
  lent := fun j a => by
    rw [F.lent j a]
    by_cases n : i = j
    · subst n
      constructor
      · rintro ⟨⟨o, e⟩, _⟩; exact absurd e (h (.own true o) trivial)
      · rintro ⟨⟨o, e⟩, _⟩
        rcases getElem?_set_of e with ⟨_, z⟩ | ⟨n, _⟩
        · cases z
        · exact absurd rfl n
    · rw [List.getElem?_set_ne n, List.getElem?_set_ne n]
  sto := fun j S a e1 e2 => by
    rcases getElem?_set_of e1 with ⟨_, z⟩ | ⟨n, z⟩
    · cases z
    · exact F.sto j S a z e2
  stl := fun j => by
    rw [F.stl j]
    by_cases n : i = j
    · subst n
      constructor
      · rintro ⟨S, e⟩; exact absurd e (h (.sto S) trivial)
      · rintro ⟨S, e⟩
        rcases getElem?_set_of e with ⟨_, z⟩ | ⟨n, _⟩
        · cases z
        · exact absurd rfl n
    · rw [List.getElem?_set_ne n]
def endsNil (i : Nat) (KD : DEnds) : DEnds := { nx := fun ρ => noOwnAt ρ i ∧ KD.nx (ρ.set i .nil), rt := KD.rt, bk := fun ρ => noOwnAt ρ i ∧ KD.bk (ρ.set i .nil), ct := fun ρ => noOwnAt ρ i ∧ KD.ct (ρ.set i .nil) }
abbrev Hdl := Str × Option Nat × WS
def hdl : List Hdl → Str → Str → D → DEnds → List Slot → Prop
  | [], _, _, _, _, _ => False
  | (x, i, w) :: r, c, f, v, KD, ρ => if isSubC c x = true then (match i with
      | some i => notLent ρ i ∧ w (endsNil i KD) (ρ.set i (.fro (.exc c f v)))
      | none => w KD ρ) else hdl r c f v KD ρ
inductive HdsD (X : Cx) (cs : List (Str × Str)) : List ExceptHandler → List Hdl → Prop
  | nil : HdsD X cs [] []
  | as {x n : Str} {i : Nat} {w : WS} {b₀ : Stmt} {suite : List Stmt} {np pos' : Pos} {hds : List ExceptHandler} {l : List Hdl} (hg : Gl X x) (hd : (x == ("__debug__" : Str)) = false) (T : Catcher X.K X.mg x cs) (hi : X.N[i]? = some n) (hln : X.env.kindOf n = some .local)
      (hsu : ∀ (a : Addr) (pn : List (Addr × Obj)), MSs (X.suite a pn) (b₀ :: suite) w) (r : HdsD X cs hds l) : HdsD X cs (.ExceptHandler (some (.Name x np)) (some n) (b₀ :: suite) pos' :: hds) ((x, some i, w) :: l)
  | only {x : Str} {w : WS} {b₀ : Stmt} {suite : List Stmt} {np pos' : Pos} {hds : List ExceptHandler} {l : List Hdl} (hg : Gl X x) (hd : (x == ("__debug__" : Str)) = false) (T : Catcher X.K X.mg x cs)
      (hsu : ∀ (a : Addr) (pn : List (Addr × Obj)), MSs (X.suite a pn) (b₀ :: suite) w) (r : HdsD X cs hds l) : HdsD X cs (.ExceptHandler (some (.Name x np)) none (b₀ :: suite) pos' :: hds) ((x, none, w) :: l)
theorem HdsD.keep {X : Cx} {cs : List (Str × Str)} {hds : List ExceptHandler} {l : List Hdl} (h : HdsD X cs hds l) : ∃ l', HdsK X hds l' ∧
    ∀ (c f : Str) (v : D) (KD : DEnds) (ρ : List Slot) (B : Addr → Prop) (H0 : Hp) (L : LT) (D : Ends) (σ : L2.St) (H : Hp) (cls : Value) (d : Option Addr), Rep X.K B ρ σ H → Fr H0 L ρ σ H → EndsOk X.K B H0 L KD D → (c, f) ∈ cs →
      ExcAt X.K (Av B ρ σ) H cls d c f v → hdl l c f v KD ρ → wKeep X.K (fun _ _ _ _ => False) D l' cls d σ H := by
  induction h with
  | nil => exact ⟨[], .nil, fun c f v KD ρ B H0 L D σ H cls d _ _ _ _ _ q => q⟩
  | @as x n i w b₀ suite np pos' hds l hg hd T hi hln hsu r ih =>
    obtain ⟨l', h1, h2⟩ := ih
    obtain ⟨y, u, ru, _, hn, T⟩ := T.ex
    refine ⟨(u, some i, sOf X.K w) :: l', .as ⟨hg, hd, hn⟩ hi hln hsu h1, fun c f v KD ρ B H0 L D σ H cls d R F en hm ea q => ?_⟩
    obtain ⟨C, dd, xv, rfl, rfl, hc, hx, rv⟩ := id ea
    refine ⟨_, (T _ hm C hc).1, fun hb a na => ?_, fun hb => h2 c f v KD ρ B H0 L D σ H _ _ R F en hm ea ?_⟩
    · have q : if isSubC c x = true then notLent ρ i ∧ w (endsNil i KD) (ρ.set i (.fro (.exc c f v))) else hdl l c f v KD ρ := q
      rw [if_pos hb] at q
      have e1 := Ex.new (o := ExcO (.ref C) (some dd) a) na
      have R1 := R.ex (B' := B) e1 fun a z => .inl z
      have F1 := F.step (e1.kp (S := Own ρ σ)) (Sub.refl ρ)
      have ra : RepV X.K (Av B ρ σ) (L2.upd H a (ExcO (.ref C) (some dd) a)) (.ref a) (.exc c f v) :=
        .exc upd_same (by rw [upd_ne (ne_of_none hx na)]; exact hx) hc (rv.mono (S := fun _ => False) e1.kp (fun _ z => z.elim) fun x z => .inl z)
      exact ⟨B, H0, L, _, endsNil i KD, R1.putF ra q.1, F1.putF q.1, q.2, ⟨fun ρ' σ' H' R' F' z => en.nx _ _ _ (R'.unset z.1) (F'.unset z.1) z.2, fun ρ' σ' H' R' F' z => en.bk _ _ _ (R'.unset z.1) (F'.unset z.1) z.2, fun ρ' σ' H' R' F' z => en.ct _ _ _ (R'.unset z.1) (F'.unset z.1) z.2, en.rt⟩⟩
    · have q : if isSubC c x = true then notLent ρ i ∧ w (endsNil i KD) (ρ.set i (.fro (.exc c f v))) else hdl l c f v KD ρ := q
      rw [if_neg (by rw [hb]; decide)] at q
      exact q
  | @only x w b₀ suite np pos' hds l hg hd T hsu r ih =>
    obtain ⟨l', h1, h2⟩ := ih
    obtain ⟨y, u, ru, _, hn, T⟩ := T.ex
    refine ⟨(u, none, sOf X.K w) :: l', .only ⟨hg, hd, hn⟩ hsu h1, fun c f v KD ρ B H0 L D σ H cls d R F en hm ea q => ?_⟩
    obtain ⟨C, dd, xv, rfl, rfl, hc, hx, rv⟩ := id ea
    refine ⟨_, (T _ hm C hc).1, fun hb a na => ?_, fun hb => h2 c f v KD ρ B H0 L D σ H _ _ R F en hm ea ?_⟩
    · have q : if isSubC c x = true then w KD ρ else hdl l c f v KD ρ := q
      rw [if_pos hb] at q
      have e1 := Ex.new (o := ExcO (.ref C) (some dd) a) na
      exact ⟨B, H0, L, ρ, KD, R.ex (B' := B) e1 fun a z => .inl z, F.step (e1.kp (S := Own ρ σ)) (Sub.refl ρ), q, ⟨en.nx, en.bk, en.ct, en.rt⟩⟩
    · have q : if isSubC c x = true then w KD ρ else hdl l c f v KD ρ := q
      rw [if_neg (by rw [hb]; decide)] at q
      exact q
end Dl
namespace Dl
open PySem PySem.Spec PyProof.Rows L2
variable [TabN]
section
variable {X : Cx} {pins : List (Addr × Obj)} {σ : L2.St} {H : Hp} {s : Shared}
theorem lam_makeN {c P : Addr} {params : Arguments} {body : Expr} {scope : Scope} {pos : Pos} {E : Value → Shared → Prop} {Q : Value → Shared → Prop} (I : Inv X pins σ H s) (TB : LamX.TabB X.base X.mg c P) (hcode : X.env.code = .ref c)
    (hm : TabN.nm P = some (X.env.qual ++ "<lambda>")) (hT : TabsN H) (hdef : defaultsOf params X.env = ([], [])) (hfree : ∀ y ∈ scope.names, y.2 = .free → ∃ c, X.env.cells.lookup y.1 = some c)
    (h : ∀ (f c' : Addr) (pm ctv : Value) (H1 : Hp) (s' : Shared), Inv X pins σ H1 s' → Kp (fun _ => False) H H1 →
      s'.heap.get? f = some (PySem.W.kla_obj "<lambda>" (X.env.qual ++ "<lambda>") params body scope (cloFrom X.env.cells scope.names []) pm c' ctv) → H1 f = none → f ∉ frs X.stack → H1 c' = some (LamX.CodeO c' (X.env.qual ++ "<lambda>")) → Q (.ref f) s') :
    wpAny (model X.prog X.w) X.A (eval (.Lambda params body scope pos) X.env) Q E s := by
  obtain ⟨ps, hP, ht, ha⟩ := hT _ _ hm
  refine PySem.W.kla_eval hdef ?_
  have bP : s.heap.BuiltinsAt X.mg P := TB.bm.keeps I.bk
  have hP' : s.heap.get? P = some { cls := .none, data := .fields ps } := I.hok P _ hP
  have nofr : ∀ f, s.heap.objs.size ≤ f → f ∉ frs X.stack := fun f hf z => by
    rcases List.mem_cons.mp (I.stkSub _ z) with e | e
    · have h1 := I.lt
      rw [← e] at h1
      exact Nat.lt_irrefl _ (Nat.lt_of_lt_of_le h1 hf)
    · exact I.nofs hf e
  cases hc : codeAmong pos ps.toList with
  | none =>
    refine PySem.W.kla_makeFunction (mg := X.mg) (c := c) (P := P) (ps := ps) (closure_ok hfree) I.ok.glob (I.mod.glob.keeps I.bk) hcode (TB.code.keeps I.bk) hP' ht hc TB.gP bP fun c' ctv h' tk hx hge hlt hrec htb => ?_
    obtain ⟨c2, oc, vs, t, e2, hoc, hd, hv⟩ := hrec
    cases e2
    have hsz : s.heap.objs.size ≤ h'.objs.size := Nat.le_trans hge (Nat.le_of_lt hlt)
    have nC : H c' = none := I.hok.fresh hge
    have nPc : P ≠ c' := ne_of_none hP nC
    have I1 := LamX.inv_table (t' := tk) (more := #[rawInt pos.line, rawInt pos.col, .ref c']) (h' := h'.push (PySem.W.kla_obj "<lambda>" (X.env.qual ++ "<lambda>") params body scope (cloFrom X.env.cells scope.names []) ((X.mg "__name__").getD .none) c' ctv)) I hP
      (fun b o hb e => Heap.get?_push_of_some _ (hx b o hb e)) (Heap.get?_push_of_some _ htb) hge ⟨oc, vs, t, Heap.get?_push_of_some _ hoc, hd, hv⟩
    have stay : ∀ b o, H b = some o → ¬ isTbl o → L2.upd (L2.upd H P (.tbl (ps ++ #[rawInt pos.line, rawInt pos.col, .ref c']))) c' (LamX.CodeO c' (X.env.qual ++ "<lambda>")) b = some o := fun b o e n => by
      rw [upd_ne (ne_of_none e nC), upd_ne (fun z => by rw [z, hP] at e; cases e; exact n trivial)]
      exact e
    have codeN : ∀ c q, ¬ isTbl (LamX.CodeO c q) := fun c q z => z
    have eL : (ps ++ #[rawInt pos.line, rawInt pos.col, .ref c']).toList = ps.toList ++ [rawInt pos.line, rawInt pos.col, .ref c'] := by simp
    have kp : Kp (fun _ => False) H (L2.upd (L2.upd H P (.tbl (ps ++ #[rawInt pos.line, rawInt pos.col, .ref c']))) c' (LamX.CodeO c' (X.env.qual ++ "<lambda>"))) := by
      refine ⟨⟨fun b o e _ t => stay b o e t, fun b o e i => stay b o e (by cases o <;> first | exact fun z => z | exact i.elim)⟩, fun b e => ?_, fun tb P' q' hq' => ?_⟩
      · by_cases h1 : b = c'
        · rw [h1, upd_same]; exact nofun
        · rw [upd_ne h1]
          by_cases h2 : b = P
          · rw [h2, upd_same]; exact nofun
          · rw [upd_ne h2]; exact e
      · by_cases hb : P' = P
        · subst hb
          rw [hm] at hq'
          cases hq'
          refine ⟨_, by rw [upd_ne nPc, upd_same], by rw [eL]; exact PySem.TriplesOk_snoc _ _ _ _ ht, fun p' cv hcv => ?_⟩
          rw [eL] at hcv
          rcases LamX.among_app _ ht hcv with z | z
          · obtain ⟨c0, e1, e2⟩ := ha p' cv z
            exact ⟨c0, e1, stay _ _ e2 (codeN _ _)⟩
          · exact ⟨c', z, upd_same⟩
        · obtain ⟨ps', a1, a2, a3⟩ := tb P' q' hq'
          refine ⟨ps', by rw [upd_ne (ne_of_none a1 nC), upd_ne hb]; exact a1, a2, fun p' cv hcv => ?_⟩
          obtain ⟨c0, e1, e2⟩ := a3 p' cv hcv
          exact ⟨c0, e1, stay _ _ e2 (codeN _ _)⟩
    refine h h'.objs.size c' ((X.mg "__name__").getD .none) ctv _ _ I1 kp (Heap.get?_push_size _ rfl) ?_ (nofr _ hsz) upd_same
    have n1 : h'.objs.size ≠ c' := Nat.ne_of_gt hlt
    have n2 : h'.objs.size ≠ P := Nat.ne_of_gt (Nat.lt_of_lt_of_le (Heap.lt_size hP') hsz)
    rw [upd_ne n1, upd_ne n2]
    exact I.hok.fresh hsz
  | some cv =>
    obtain ⟨c', e, hco⟩ := ha pos cv hc
    subst e
    refine PySem.W.kla_makeFunctionHit (mg := X.mg) (c := c) (P := P) (ps := ps) (closure_ok hfree) I.ok.glob (I.mod.glob.keeps I.bk) hcode (TB.code.keeps I.bk) hP' ht hc bP fun ctv h' tk hx hsz => ?_
    have I1 : Inv X pins σ H { s with heap := h'.push (PySem.W.kla_obj "<lambda>" (X.env.qual ++ "<lambda>") params body scope (cloFrom X.env.cells scope.names []) ((X.mg "__name__").getD .none) c' ctv), toks := tk } := I.kept fun b o e => Heap.get?_push_of_some _ (hx b o e)
    exact h h'.objs.size c' ((X.mg "__name__").getD .none) ctv H _ I1 Kp.refl (Heap.get?_push_size _ rfl) (I.hok.fresh hsz) (nofr _ hsz) hco
end
section
variable {X : Cx} {pins : List (Addr × Obj)} {σ : L2.St} {H HZ : Hp} {s s1 : Shared}
end
end Dl
namespace Dl
open PySem PySem.Spec PyProof.Rows L2
variable [TabN]
abbrev LamD := (Slot → Prop) → XD → Prop
def wAct (i : Nat) (d : D) (L : LamD) : WEX := fun ex ρ Q => ρ[i]? = some (.fro d) ∧ L (fun s => match s with
  | .fro u => Q (.fro u) ρ
  | .own _ o => Q (.own false o) ρ
  | _ => False) (fun c f v => ex c f v ρ)
def capt (ρ : List Slot) : List Nat → (List D → List Slot → Prop) → Prop
  | [], k => k [] ρ
  | j :: js, k => match ρ[j]? with
    | some (.fro d) => capt ρ js fun ds ρ' => k (d :: ds) ρ'
    | some (.own false o) => capt (ρ.set j (.fro o.d)) js fun ds ρ' => k (o.d :: ds) ρ'
    | _ => False
def viewL : List Nat → List D → List Slot → List Slot
  | j :: js, d :: ds, ρ => viewL js ds (ρ.set j (.fro d))
  | _, _, ρ => ρ
section
variable {K : PySem.W.Frag} {B : Addr → Prop} {σ : L2.St} {H : Hp}
theorem capt_ok : ∀ {js : List Nat} {ρ : List Slot} {k : List D → List Slot → Prop}, Rep K B ρ σ H → capt ρ js k →
    ∃ ds vs ρ', k ds ρ' ∧ Rep K B ρ' σ H ∧ Sub ρ' ρ ∧ RepL K (Av B ρ' σ) H vs ds ∧ js.map (fun j => σ[j]?) = vs.map fun v => some (some v)
  | [], ρ, k, R, h => ⟨[], [], ρ, h, R, Sub.refl ρ, .nil, rfl⟩
  | j :: js, ρ, k, R, h => by
    unfold capt at h
    split at h
    · rename_i d e
      obtain ⟨ds, vs, ρ', hk, R', s', r, hv⟩ := capt_ok R h
      obtain ⟨v, e1, rv⟩ := R.slot j _ e
      refine ⟨d :: ds, v :: vs, ρ', hk, R', s', .cons (rv.av fun a z => z.elim (fun z => .inl (s'.own a z)) .inr) r, by rw [List.map_cons, List.map_cons, hv, e1]⟩
    · rename_i o e
      obtain ⟨R1, s1, a, ea, ra⟩ := R.freeze e
      obtain ⟨ds, vs, ρ', hk, R', s', r, hv⟩ := capt_ok R1 h
      exact ⟨_, .ref a :: vs, ρ', hk, R', s1.trans s', .cons (ra.av fun a z => z.elim (fun z => .inl (s'.own a z)) .inr) r, by rw [List.map_cons, List.map_cons, hv, ea]⟩
    · exact h.elim
def noOwns (ρ : List Slot) : Prop := ∀ (i : Nat) (s : Slot), Hold s → ρ[i]? ≠ some s
theorem noOwns.own {ρ : List Slot} (h : noOwns ρ) {a : Addr} (z : Own ρ σ a) : False := by
  rcases z with ⟨i, b, o, e, _⟩ | ⟨i, S, e, _⟩
  · exact h i (.own b o) trivial e
  · exact h i (.sto S) trivial e
theorem view_ok : ∀ {js : List Nat} {ds : List D} {vs : List V} {ρ : List Slot}, Rep K B ρ σ H → noOwns ρ → RepL K B H vs ds → js.map (fun j => σ[j]?) = vs.map (fun v => some (some v)) → Rep K B (viewL js ds ρ) σ H ∧ noOwns (viewL js ds ρ)
  | [], _, _, ρ, R, no, _, _ => ⟨R, no⟩
  | j :: js, [], _, ρ, R, no, _, _ => ⟨R, no⟩
  | j :: js, d :: ds, vs, ρ, R, no, r, e => by
    cases r with
    | @cons v vs' _ _ r1 r2 =>
      rw [List.map_cons, List.map_cons] at e
      obtain ⟨e1, e2⟩ := List.cons.inj e
      have no' : noOwns (ρ.set j (.fro d)) := fun i s hs z => by
        rcases getElem?_set_of z with ⟨_, z⟩ | ⟨_, z⟩
        · subst z; exact hs
        · exact no i s hs z
      refine view_ok (ρ := ρ.set j (.fro d)) ?_ no' r2 e2
      refine ⟨R.shp.of (by rw [List.length_set]; exact R.len) (fun i s z => ?_) (fun i b o a z => absurd z (no' i (.own b o) trivial)) (fun i S z => absurd z (no' i (.sto S) trivial)), fun i s z => ?_, R.btr, fun a z => (no'.own z).elim, R.tabs⟩
      · have hj := (List.getElem?_eq_some_iff.mp z).1
        rw [List.length_set] at hj
        exact .inl ((R.tail i _ (List.getElem?_eq_getElem hj)).elim id fun ⟨S, q⟩ => absurd (by rw [List.getElem?_eq_getElem hj, q]) (no i (.sto S) trivial))
      rcases getElem?_set_of z with ⟨rfl, rfl⟩ | ⟨_, z⟩
      · exact ⟨v, e1, r1.av fun a z => z.elim (fun z => (no'.own z).elim) id⟩
      · exact (R.slot i s z).av fun a z => z.elim (fun z => (no'.own z).elim) .inr
theorem nils_ok (hb : ∀ a, B a → H a ≠ none) (tb : TabsN H) {n : Nat} (hn : n = σ.length) : Rep K B (List.replicate n .nil) σ H ∧ noOwns (List.replicate n .nil) := by
  have no : noOwns (List.replicate n .nil) := fun i s hs z => by
    rw [List.getElem?_replicate] at z
    split at z
    · cases z; exact hs
    · cases z
  refine ⟨⟨⟨by rw [List.length_replicate, hn]; exact Nat.le_refl _, fun i s z => .inl (by have := (List.getElem?_eq_some_iff.mp z).1; rw [List.length_replicate] at this; omega), fun i k b o b' o' a z => absurd z (no i (.own b o) trivial), fun i k S b o a z => absurd z (no i (.sto S) trivial), fun i k S T z => absurd z (no i (.sto S) trivial)⟩, fun i s z => ?_, hb, fun a z => (no.own z).elim, tb⟩, no⟩
  rw [List.getElem?_replicate] at z
  split at z
  · cases z; trivial
  · cases z
end
structure CalleeL (P : Program) (w : World) (K : PySem.W.Frag) (mg : Str → Option Value) (base : Heap) (k : Nat) (x a : Str) (C : LamD → (Slot → Prop) → Prop) : Prop where
  ex : ∃ (g : Addr) (fd : FuncData) (st : Stmt) (N : List Str), Fun K x x st g fd ∧ FnScope N [a] (defScope st) ∧ N[0]? = some a ∧ Vis (defScope st) a ∧ mg x = some (.ref g) ∧ PySem.W.keepIn K (.ref g) = true ∧ L2.Binds K fd [a] [] ∧
    ∀ (cdv : Value) (A : Around) (outer : List Env) (s : Shared) (H : Hp) (E : XK), Room k (A.deeper (envOfC x (defScope st) s.heap.objs.size g cdv)) → (A.deeper (envOfC x (defScope st) s.heap.objs.size g cdv)).guards = some [] → ∀ (d : D) (L : LamD),
      (∀ (W : WX) (pn : List (Addr × Obj)) (xe : Value → Shared → Prop) (p1 p2 : Pos), Takes ((bodyCx CX0 P w K mg base N x st g cdv A outer s H E).tr pn xe) W → MEX ((bodyCx CX0 P w K mg base N x st g cdv A outer s H E).tr pn xe) W (.Call (.Name a p1) [] [] p2) (wAct 0 d L)) →
      ∃ wb, MSs (bodyCx CX0 P w K mg base N x st g cdv A outer s H E).nox (defBody st) wb ∧ ∀ Q : Slot → Prop, C L Q → wb (endsOf [.fro d] fun s _ => Q s) ([.fro d] ++ List.replicate (N.length - 1) .nil)
structure LamMk (X : Cx) : Prop where
  ex : ∃ (c P : Addr), LamX.TabB X.base X.mg c P ∧ X.env.code = .ref c ∧ TabN.nm P = some (X.env.qual ++ "<lambda>")
end Dl
namespace Dl
open PySem PySem.Spec PyProof.Rows L2
theorem def_okL [TabN] {P : Program} {w : World} {K : PySem.W.Frag} {mg : Str → Option Value} {base : Heap} {x qual : Str} {st : Stmt} {f : Addr} {fd : FuncData} {N ps : List Str} {k : Nat} {C : WE} {wb : WS} (F : Fun K x qual st f fd) (S : FnScope N ps (defScope st))
    (hb : ∀ (cdv : Value) (A : Around) (outer : List Env) (s : Shared) (H : Hp) (E : XK), fd.code = cdv → Room k (A.deeper (envOfC qual (defScope st) s.heap.objs.size f cdv)) → (A.deeper (envOfC qual (defScope st) s.heap.objs.size f cdv)).guards = some [] →
      MSs (bodyCx CX0 P w K mg base N qual st f cdv A outer s H E).nox (defBody st) wb)
    (hC : ∀ args Q, args.length = ps.length → C args Q → noOwn args ∧ wb (endsOf args Q) (args ++ List.replicate (N.length - ps.length) .nil)) :
    FnG P w K mg base CX0 (k + 1) f fd ps (spOf K ps.length C) := by
  obtain ⟨oc, od, kV, doc, pm, an, cdv, ct, osl, rfl, lk, hcd⟩ := F.ex
  refine fnG_of lk hcd S (fun vs H Q E h => h.1) fun A outer s H vs Q E hr hgu hsp => ?_
  have hB := hb cdv A outer s H E rfl hr hgu
  refine ⟨_, PSs.nox hB, ?_⟩
  obtain ⟨hl, B, args, Q', R, hl1, hc, hq⟩ := hsp
  have hla : args.length = ps.length := hl1.trans hl
  obtain ⟨no, hw⟩ := hC args Q' hla hc
  have hst : L2.start N vs = vs.map some ++ List.replicate (N.length - ps.length) none := by unfold L2.start; rw [hl]
  obtain ⟨R0, ow⟩ := R.start (n := N.length - ps.length) hl1
  obtain ⟨F0, en⟩ := body_start (N.length - ps.length) R hl1 no hq
  rw [hst]
  exact ⟨B, H, _, _, endsOf args Q', R0, F0, hw, en⟩
theorem law_callT [TabN] {P : Program} {w : World} {K : PySem.W.Frag} {mg mb : Str → Option Value} {k : Nat} {fa a : Addr} {cs : List (Addr × Addr)} {fd : FuncData} {x : Str} {sp : Sp} {s₁ : Shared} {vs : List Value} {ns : List Int}
    (KX : K.In s₁.heap) (hns : s₁.heap.Ns mainGlobals mg) (hb : s₁.heap.Ns builtinsNs mb) (hbb : ∀ x : Str, x ≠ "__name__" → mb x = bootBuiltins x) (hlim : s₁.heap.NoLimit) (hg : s₁.gens = #[])
    (hT : ∀ p ∈ cs, s₁.heap.get? p.2 = some { cls := .none, data := .fields #[] }) (nT : ∀ p ∈ cs, K.lookup p.2 = none) (C : ∀ p ∈ cs, PySem.W.CodeHd s₁.heap p.1 p.2)
    (hbm : ∃ (bm : Addr) (ob : Obj), mg "__builtins__" = some (.ref bm) ∧ bm ≠ builtinsNs ∧ s₁.heap.get? bm = some ob ∧ ob.cls = .type "module" ∧ ob.dict = some builtinsNs ∧ ob.data = .plain)
    (ha : s₁.heap.get? a = some { cls := .type "list", data := .seq vs.toArray }) (hi : IntsAre vs ns) (hl : ns.length ≤ sizeLine) (hr : Room k callerA)
    (F : ∀ base : Heap, K.In base → base.Ns mainGlobals mg → (∀ p ∈ cs, LamX.TabB base mg p.1 p.2) → FnG P w K mg base CX0 k fa fd [x] sp) (hbind : ∀ (s : Shared) (u : Value), BindsTo s fd ⟨[u], []⟩ [(x, u)])
    (hsp : ∀ H : Hp, (∀ p ∈ cs, H p.2 = some (.tbl #[])) → ArgAt K H a ns → sp [.ref a] H (fun v _ => v = .bl true) fun _ _ _ => False) :
    codeAny (model P w) callerA (.call (.ref fa) ⟨[.ref a], []⟩) (fun r s' => r = .ok (.ret (.bool true)) ∧ OldK s₁.heap s'.heap ∧ s'.os = s₁.os ∧ AllBare s'.gens) s₁ := by
  have rv := vals_ints hi
  have lenV := hi.length
  have isT : ∀ b : Addr, b ∈ cs.map (·.2) → s₁.heap.get? b = some { cls := .none, data := .fields #[] } := fun b hb => by
    obtain ⟨p, hp, e⟩ := List.mem_map.mp hb
    rw [← e]
    exact hT p hp
  have aT : a ∉ cs.map (·.2) := fun z => by
    have q := isT a z
    rw [ha] at q
    have z' : Data.seq vs.toArray _ = Data.fields #[] := congrArg Obj.data (Option.some.inj q)
    cases z'
  have memT : ∀ p ∈ cs, p.2 ∈ cs.map (·.2) := fun p hp => List.mem_map.mpr ⟨p, hp, rfl⟩
  -- from an abstract heap in which nothing but the script and the tables may be tracked
  have core : ∀ H : Hp, (∀ p ∈ cs, H p.2 = some (.tbl #[])) → (∀ b, H b = none ∨ b ∈ cs.map (·.2) ∨ ∃ o xs, H b = some (.frz o (.lst xs))) → ArgAt K H a ns → HOk P w H s₁.heap → (∀ b, H b ≠ none → b = a ∨ b ∈ cs.map (·.2)) → (H a ≠ none → K.lookup a = none) →
      codeAny (model P w) callerA (.call (.ref fa) ⟨[.ref a], []⟩) (fun r s' => r = .ok (.ret (.bool true)) ∧ OldK s₁.heap s'.heap ∧ s'.os = s₁.os ∧ AllBare s'.gens) s₁ := by
    intro H hH hO hS hok hA hK
    have base_of : ∀ {b : Addr} {o : Obj}, s₁.heap.get? b = some o → H b = none → (hidT s₁.heap H).get? b = some o := fun e n => hidT_get e n
    have noD : ∀ {b : Addr} {o : Obj}, s₁.heap.get? b = some o → (∀ vs n, o.data ≠ .seq vs n) → o.data ≠ .fields #[] → H b = none := fun {b o} e h1 h2 => by
      cases q : H b with
      | none => rfl
      | some u =>
        rcases hA b (by rw [q]; simp) with e' | e'
        · rw [e', ha] at e
          cases e
          exact (h1 _ _ rfl).elim
        · rw [isT b e'] at e
          cases e
          exact (h2 rfl).elim
    have noA : ∀ {b : Addr} {o : Obj} {es : Array DictEntry} {ep : Nat}, s₁.heap.get? b = some o → o.data = .dict es ep → H b = none := fun {b o es ep} e d => by
      refine noD e (fun vs n z => ?_) fun z => ?_
      · rw [d] at z
        cases z
      · rw [d] at z
        cases z
    have nsK : ∀ {b : Addr} {m : Str → Option Value}, s₁.heap.Ns b m → (hidT s₁.heap H).Ns b m := fun {b m} ⟨o, es, ep, e, d, r⟩ => ⟨o, es, ep, base_of e (noA e d), d, r⟩
    have hKb : K.In (hidT s₁.heap H) := fun b o e => base_of (KX b o e) (by
      cases q : H b with
      | none => rfl
      | some u =>
        rcases hA b (by rw [q]; simp) with e' | e'
        · rw [e'] at e q
          rw [hK (by rw [q]; simp)] at e
          cases e
        · obtain ⟨p, hp, ep⟩ := List.mem_map.mp e'
          rw [← ep, nT p hp] at e
          cases e)
    have hM : L2.Mod K mg (hidT s₁.heap H) := ⟨hKb, nsK hns, ⟨mb, nsK hb, hbb⟩, let ⟨mc, h1, h2⟩ := hlim; ⟨mc, nsK h1, h2⟩⟩
    have TB : ∀ p ∈ cs, LamX.TabB (hidT s₁.heap H) mg p.1 p.2 := fun p hp => by
      have hTp := hT p hp
      refine ⟨?_, ?_, fun z => ?_⟩
      · obtain ⟨o, us, file, tf, flags, tg, inF, text, tt, e1, r1, r2, r3, r4, r5, r6, r7, r8, hne⟩ := C p hp
        refine ⟨o, us, file, tf, flags, tg, inF, text, tt, base_of e1 (noD e1 (fun vs n z => ?_) fun z => ?_), r1, r2, r3, r4, r5, r6, r7, r8, hne⟩
        · rw [r2] at z
          cases z
        · rw [r2] at z
          cases z
          simp at r3
      · obtain ⟨bm, ob, b1, b2, b3, b4, b5, b6⟩ := hbm
        have nG : bm ≠ mainGlobals := fun q => by
          obtain ⟨o, es, ep, e, hd, _⟩ := hns
          rw [q, e] at b3
          cases b3
          rw [hd] at b6
          cases b6
        have nP : bm ≠ p.2 := fun q => by
          rw [q, hTp] at b3
          cases b3
          cases b6
        refine ⟨bm, ob, b1, b2, nG, nP, base_of b3 (noD b3 (fun vs n z => ?_) fun z => ?_), b4, b5, b6⟩
        · rw [b6] at z
          cases z
        · rw [b6] at z
          cases z
      · obtain ⟨o, es, ep, e, hd, _⟩ := hns
        rw [z, hTp] at e
        cases e
        cases hd
    have e0 : Env0 P w K mg (hidT s₁.heap H) callerA [] s₁ H := ⟨rfl, hM, fun b o e => of_hidT e, Nat.le_of_eq (hidT_size _ _), trivial, fun b hb => absurd (show b ∈ ([] : List Addr) from hb) (by simp), hok, .of_eq hg⟩
    refine codeAny_mono ((F _ hKb (nsK hns) TB).run callerA [] s₁ H ⟨[.ref a], []⟩ [.ref a] [.ref a] _ _ hr rfl e0 (hbind s₁ (.ref a)) (.cons rfl .nil) (hsp H hH hS)) fun r s' h => ?_
    cases r with
    | error e => exact (show False from h).elim
    | ok fl =>
      cases fl with
      | next => exact False.elim h
      | brk => exact False.elim h
      | cont => exact False.elim h
      | ret u =>
        obtain ⟨v, H', os, bare, un, hok', r', q⟩ := h
        have q' : v = .bl true := q
        subst q'
        obtain rfl : u = Value.bool true := r'
        have key : ∀ b o, b ∉ cs.map (·.2) → s₁.heap.get? b = some o → s'.heap.get? b = some o := fun b o nb e => by
          cases q : H b with
          | none => exact un.keep b o e q (by intro z; exact absurd (show b ∈ ([] : List Addr) from z) (by simp)) (by simp)
          | some u =>
            rcases hO b with z | z | ⟨ob, xs, z⟩
            · rw [q] at z; cases z
            · exact absurd z nb
            · have z2 := un.frzs b ob _ z
              obtain ⟨e1, _⟩ := hok b _ z
              obtain ⟨e2, _⟩ := hok' b _ z2
              rw [e] at e1; cases e1
              exact e2
        have grown : ∀ p ∈ cs, ∃ more : Array Value, s'.heap.get? p.2 = some { cls := .none, data := .fields more } := fun p hp => by
          obtain ⟨more, z⟩ := un.tbls p.2 #[] (hH p hp)
          exact ⟨_, hok' p.2 _ z⟩
        refine ⟨rfl, ⟨fun b o e => ?_, fun b o e => ?_⟩, os, bare⟩
        · by_cases hb : b ∈ cs.map (·.2)
          · obtain ⟨p, hp, ep⟩ := List.mem_map.mp hb
            obtain ⟨more, hm⟩ := grown p hp
            rw [← ep] at e ⊢
            rw [hT p hp] at e
            cases e
            exact .inr (.inl ⟨((C p hp).tab (hT p hp)).isCodeTable, rfl, #[], more, rfl, by rw [Array.empty_append]; exact hm⟩)
          · exact .inl (key b o hb e)
        · by_cases hb : b ∈ cs.map (·.2)
          · obtain ⟨p, hp, ep⟩ := List.mem_map.mp hb
            obtain ⟨more, hm⟩ := grown p hp
            rw [← ep]
            exact ⟨_, hm⟩
          · exact ⟨o, key b o hb e⟩
  cases hk : K.lookup a with
  | some o =>
    have e := KX a o hk
    rw [ha] at e
    cases e
    refine core (fun b => if b ∈ cs.map (·.2) then some (.tbl #[]) else none) (fun p hp => if_pos (memT p hp)) (fun b => ?_) (.inr ⟨_, vs.toArray, _, hk, rfl, rfl, rfl, by rw [List.size_toArray, lenV]; exact hl, by simpa using rv⟩) (fun b u z => ?_) (fun b z => ?_) fun z => absurd (show (if a ∈ cs.map (·.2) then some (HO.tbl #[]) else none) = none from if_neg aT) z
    · by_cases hb : b ∈ cs.map (·.2)
      · exact .inr (.inl hb)
      · exact .inl (if_neg hb)
    · by_cases hb : b ∈ cs.map (·.2)
      · have z' := (if_pos hb).symm.trans z
        cases z'
        exact isT b hb
      · have z' := (if_neg hb).symm.trans z
        cases z'
    · by_cases hb : b ∈ cs.map (·.2)
      · exact .inr hb
      · exact absurd (if_neg hb) z
  | none =>
    refine core (fun b => if b = a then some (.frz { cls := .type "list", data := .seq vs.toArray } (.lst (ns.map V.int))) else if b ∈ cs.map (·.2) then some (.tbl #[]) else none) (fun p hp => (if_neg (show ¬ p.2 = a from fun z => aT (by rw [← z]; exact memT p hp))).trans (if_pos (memT p hp))) (fun b => ?_)
      (.inl ⟨{ cls := .type "list", data := .seq vs.toArray }, if_pos rfl⟩) (fun b u z => ?_) (fun b z => ?_) fun _ => hk
    · by_cases hb : b = a
      · exact .inr (.inr ⟨_, _, if_pos hb⟩)
      · by_cases hb2 : b ∈ cs.map (·.2)
        · exact .inr (.inl hb2)
        · exact .inl ((if_neg hb).trans (if_neg hb2))
    · by_cases hb : b = a
      · have z' := (if_pos hb).symm.trans z
        cases z'
        rw [hb]
        exact ⟨ha, by rw [List.length_map]; exact hl, vs, _, rv, ha⟩
      · have z1 := (if_neg hb).symm.trans z
        by_cases hb2 : b ∈ cs.map (·.2)
        · have z' := (if_pos hb2).symm.trans z1
          cases z'
          exact isT b hb2
        · have z' := (if_neg hb2).symm.trans z1
          cases z'
    · by_cases hb : b = a
      · exact .inl hb
      · by_cases hb2 : b ∈ cs.map (·.2)
        · exact .inr hb2
        · exact absurd ((if_neg hb).trans (if_neg hb2)) z
namespace Hd
open He
def codO (K : Fg) (c P : Addr) : Bool := match K.lookup c with
  | some ⟨.type t, _, .fields vs, _⟩ => decide (t = "code") && ((match (vs[11]? : Option Value) with
    | some (.ref p) => decide (p = P)
    | _ => false) && ((match vs.getD 18 .none with
    | .str _ _ => true
    | _ => false) && ((match vs.getD 7 .none with
    | .int _ _ => true
    | _ => false) && ((match vs.getD 9 .none with
    | .bool _ => true
    | _ => false) && ((match vs.getD 10 .none with
    | .int _ _ => true
    | _ => false) && decide (c ≠ P))))))
  | _ => false
def cdA (K : Fg) (f : Addr) : Addr := match K.lookup f with
  | some ⟨_, _, .func fd, _⟩ => (match fd.code with
    | .ref c => c
    | _ => 0)
  | _ => 0
def cdB (K : Fg) (f : Addr) : Bool := match K.lookup f with
  | some ⟨_, _, .func fd, _⟩ => (match fd.code with
    | .ref _ => true
    | _ => false)
  | _ => false
def tabOf (K : Fg) (c : Addr) : Addr := match K.lookup c with
  | some ⟨_, _, .fields vs, _⟩ => (match (vs[11]? : Option Value) with
    | some (.ref p) => p
    | _ => 0)
  | _ => 0
def tabE (o : Option Obj) : Bool := match o with
  | some ⟨.none, none, .fields vs, sl⟩ => vs.isEmpty && sl.isEmpty
  | _ => false
theorem tabE_ok {o : Option Obj} (h : tabE o = true) : o = some { cls := .none, data := .fields #[] } := by
  unfold tabE at h
  split at h
  · rename_i vs sl
    obtain ⟨h1, h2⟩ := ba h
    rw [Array.isEmpty_iff.mp h1, Array.isEmpty_iff.mp h2]
  · cases h
theorem codO_ok {K : Fg} {h : Heap} {c P : Addr} (X : K.In h) (e : codO K c P = true) : PySem.W.CodeHd h c P := by
  unfold codO at e
  split at e
  · rename_i t d vs sl hl
    obtain ⟨h1, e⟩ := ba e
    obtain ⟨h2, e⟩ := ba e
    obtain ⟨h3, e⟩ := ba e
    obtain ⟨h4, e⟩ := ba e
    obtain ⟨h5, e⟩ := ba e
    obtain ⟨h6, h7⟩ := ba e
    have t' := of_decide_eq_true h1
    subst t'
    split at h2
    · rename_i p hp
      have hp' := of_decide_eq_true h2
      subst hp'
      split at h3
      · rename_i file tf h3e
        split at h4
        · rename_i fl tg h4e
          split at h5
          · rename_i b h5e
            split at h6
            · rename_i tx tt h6e
              exact ⟨_, vs, file, tf, fl, tg, b, tx, tt, X _ _ hl, rfl, rfl, hp, by rw [Array.getD_eq_getD_getElem?, hp]; rfl, h3e, h4e, h5e, h6e, of_decide_eq_true h7⟩
            · cases h6
          · cases h5
        · cases h4
      · cases h3
    · cases h2
  · cases e
theorem cdB_ok {K : Fg} {f : Addr} {oc : Value} {od : Option Addr} {fd : FuncData} {osl : Array (Option Value)} (h : cdB K f = true) (l : K.lookup f = some ⟨oc, od, .func fd, osl⟩) : fd.code = .ref (cdA K f) := by
  unfold cdB at h
  unfold cdA
  rw [l] at h ⊢
  simp only at h ⊢
  split at h
  · rename_i c hc
    rw [hc]
  · cases h
theorem frG_no {g : Addr → Option Obj} {a : Addr} : ∀ {as : List Addr}, a ∉ as → (frG g as).lookup a = none
  | [], _ => rfl
  | b :: r, h => by
    unfold frG
    rw [List.filterMap_cons]
    have ih := frG_no (g := g) (a := a) (as := r) fun z => h (List.mem_cons_of_mem _ z)
    cases hb : g b with
    | none => exact ih
    | some o =>
      show List.lookup a ((b, o) :: frG g r) = none
      rw [List.lookup_cons, show (a == b) = false by simpa using fun z : a = b => h (by rw [z]; exact List.mem_cons_self)]
      exact ih
end Hd
@[reducible] def tabAt (P : Addr) (q : Str) : TabN := ⟨fun b => if b = P then some q else none⟩
theorem tabAt_nm (P : Addr) (q : Str) : (tabAt P q).nm P = some q := if_pos rfl
theorem walk_gL {l : PySem.W.OpenLaw} {n k : Nat} {q : Program} {loose : List Str} {XP : (Str → Option Value) → Heap → Prop} {YP : World → Heap → Prop} {d : DefRec} {C : WE} {x : Str} (qn : Str)
    (hn : l.most = some n) (hn2 : n ≤ sizeLine) (hdf : d.params.defaults = []) (hr : Room k callerA)
    (F : ∀ (w : World) (mg : Str → Option Value) (fa : Addr) (h : Heap), YP w h → h.Ns mainGlobals mg → mg d.name = some (.ref fa) →
      ∃ (K : PySem.W.Frag) (fd : FuncData) (c P : Addr), K.In h ∧ h.get? P = some { cls := .none, data := .fields #[] } ∧ K.lookup P = none ∧ PySem.W.CodeHd h c P ∧ (∀ (s : Shared) (u : Value), BindsTo s fd ⟨[u], []⟩ [(x, u)]) ∧
        ∀ base : Heap, K.In base → base.Ns mainGlobals mg → LamX.TabB base mg c P → FnG l.prog w K mg base CX0 k fa fd [x] (@spOf (tabAt P qn) K 1 C))
    (hC : ∀ (ns : List Int), ns.length ≤ n → ∀ Q : Slot → List Slot → Prop, (∀ s, Q (.fro (.bl true)) s) → C [.fro (.arg ns)] Q) :
    PySem.W.WalkO q loose XP YP l.row.toRowW d [] (fun f vs => PySem.call f vs) := by
  refine Att.attach_call hn hdf fun w s₀ t0 mg mb fa o pm cd doc a us ns G Y ho hd hcd hmg hobj hints hlen hg => ?_
  obtain ⟨K, fd, c, P, KX, hP, nP, hc, hb, hF⟩ := F w mg fa _ Y G.T.g hmg
  letI : TabN := tabAt P qn
  have one : ∀ p : Addr × Addr, p ∈ [(c, P)] → p = (c, P) := fun p hp => by simpa using hp
  refine law_callT (cs := [(c, P)]) (sp := @spOf (tabAt P qn) K 1 C) KX G.T.g G.T.b G.T.builtins G.T.nolimit hg (fun p hp => by rw [one p hp]; exact hP) (fun p hp => by rw [one p hp]; exact nP) (fun p hp => by rw [one p hp]; exact hc) G.T.bmain hobj hints (Nat.le_trans hlen hn2) hr
    (fun base kB nB tb => hF base kB nB (tb (c, P) List.mem_cons_self)) hb fun H hH hA => ?_
  have noOwn : ∀ z, ¬ Own [.fro (.arg ns)] [some (V.ref a)] z := fun z => fros_own (ds := [.arg ns])
  have tb : TabsN H := fun P' q' hq => by
    have hq : (if P' = P then some qn else none) = some q' := hq
    by_cases z : P' = P
    · subst z
      exact LamX.TabS.nil (hH (c, P') List.mem_cons_self)
    · rw [if_neg z] at hq; cases hq
  have rep : Rep K (fun _ => False) [.fro (.arg ns)] [some (.ref a)] H := by
    refine ⟨fros_shape (ds := [.arg ns]) rfl, fun i s e => ?_, fun _ z => z.elim, fun y z => (noOwn y z).elim, tb⟩
    cases i with
    | zero => cases e; exact ⟨_, rfl, .arg hA⟩
    | succ i => cases e
  exact ⟨rfl, fun _ => False, [.fro (.arg ns)], fun s _ => s = .fro (.bl true), rep, rfl, hC ns hlen _ fun _ => rfl, fun s v ρ' H' post _ _ e => by
    subst e
    cases post.2
    rfl⟩
end Dl
namespace Dl
namespace Hd
open PySem PySem.Spec PyProof.Rows L2 He
def fnOX (K : Fg) (f : Addr) : FnV := match K.lookup f with
  | some ⟨_, _, .func fd, _⟩ => some (fd.name, fd.qualname, fd.params, fd.body, fd.scope, fd.globals, [], fd.defaults, fd.builtins)
  | _ => none
def isNone : Value → Bool
  | .none => true
  | _ => false
def seenX (fs : List (Fg → Bool)) (fn xs : List FnE) (K : Fg) : Bool × List FnV := ((fs.all fun f => f K) && fn.all fun d => d.ok K, fn.map (fun d => fnO K (d.adr K)) ++ xs.map fun d => fnOX K (d.adr K))
def dueX (fn xs : List FnE) : Bool × List FnV := (true, fn.map FnE.val ++ xs.map FnE.val)
theorem seenX_ok {fs : List (Fg → Bool)} {fn xs : List FnE} {K : Fg} (c : seenX fs fn xs K = dueX fn xs) : seen fs fn K = due fn ∧ ∀ d ∈ xs, fnOX K (d.adr K) = d.val := by
  have c1 := congrArg (fun z : Bool × List FnV => z.1) c
  have c2 : fn.map (fun d => fnO K (d.adr K)) ++ xs.map (fun d => fnOX K (d.adr K)) = fn.map FnE.val ++ xs.map FnE.val := congrArg (fun z : Bool × List FnV => z.2) c
  obtain ⟨e1, e2⟩ := List.append_inj c2 (by rw [List.length_map, List.length_map])
  refine ⟨Prod.ext c1 e1, fun d hd => ?_⟩
  exact List.map_inj_left.mp e2 d hd
def seenLX (as : List Addr) (fs : List (Fg → Bool)) (fn xs : List FnE) (m : Fg → Addr) (g : Addr → Option Obj) : (Bool × List FnV) × Bool :=
  let Kf := frG g as
  let P := tabOf Kf (cdA Kf (m Kf))
  let K := frG g (as.filter fun a => !(a == P))
  (seenX fs fn xs K, cdB K (m K) && (codO K (cdA K (m K)) P && tabE (g P)))
def hookX (as : List Addr) (fs : List (Fg → Bool)) (fn xs : List FnE) (m : Fg → Addr) : PySem.W.Hook where
  α := (Bool × List FnV) × Bool
  obs := fun s => seenLX as fs fn xs m s.heap.get?
  val := fun _ => (dueX fn xs, true)
  says := fun _ h => ∃ (K : Fg) (P : Addr), K.In h ∧ seenX fs fn xs K = dueX fn xs ∧ cdB K (m K) = true ∧ codO K (cdA K (m K)) P = true ∧ K.lookup P = none ∧ h.get? P = some { cls := .none, data := .fields #[] }
  of := fun _ s e => by
    have e1 := congrArg (fun z : (Bool × List FnV) × Bool => z.1) e
    have e2 := congrArg (fun z : (Bool × List FnV) × Bool => z.2) e
    obtain ⟨h1, h2⟩ := ba e2
    obtain ⟨h2, h3⟩ := ba h2
    exact ⟨_, _, frG_in, e1, h1, h2, frG_no (by simp), tabE_ok h3⟩
  keeps := fun _ _ _ ⟨K, P, hK, c1, c2, c3, c4, c5⟩ k => ⟨K, P, PySem.W.Frag.In.keeps hK k, c1, c2, c3, c4, k _ _ c5⟩
def obX (as : List Addr) (fs : List (Fg → Bool)) (fn xs : List FnE) (m : Fg → Addr) (s : PySem.W.SharedT) : (Bool × List FnV) × Bool := seenLX as fs fn xs m (HandSHeadRun.getT s)
theorem obX_eq {as : List Addr} {fs : List (Fg → Bool)} {fn xs : List FnE} {m : Fg → Addr} (s : PySem.W.SharedT) : obX as fs fn xs m s = (hookX as fs fn xs m).obs s.abs := by
  have e : HandSHeadRun.getT s = s.abs.heap.get? := funext (HandSHeadRun.getT_eq s)
  show seenLX as fs fn xs m (HandSHeadRun.getT s) = seenLX as fs fn xs m s.abs.heap.get?
  rw [e]
end Hd
end Dl
namespace Dl
open PySem PySem.Spec PyProof.Rows L2
variable [TabN]
end Dl
namespace Dl
open PySem PySem.Spec PyProof.Rows L2
variable [TabN]
structure CalleeXK (P : Program) (w : World) (K : PySem.W.Frag) (mg : Str → Option Value) (base : Heap) (k : Nat) (x : Str) (ps ks : List Str) (is : List Nat) (C : WDX) : Prop where
  ex : ∃ (f : Addr) (fd : FuncData), FnG P w K mg base (L2.CX P w) k f fd ps (spX K ps.length C) ∧ mg x = some (.ref f) ∧ PySem.W.keepIn K (.ref f) = true ∧ KwB K fd ps ks is
def wCallXK (C : WDX) (ws : List WE) (is : List Nat) : WEX := fun ex ρ Q => wArgs ws ρ fun ss ρ1 => frzL ρ1 ss fun ds ρ2 => ds.length = ws.length ∧ C (fun c f v => ex c f v ρ2) ((perm .non ds is).map .fro) fun r _ => match r with
  | .fro d => Q (.fro d) ρ2
  | .own _ o => Q (.own false o) ρ2
  | _ => False
theorem callXK_ok {K : PySem.W.Frag} {C : WDX} {B : Addr → Prop} {ρ : List Slot} {σ : L2.St} {H : Hp} {ws : List WE} {is : List Nat} {W : WX} {Q' : Slot → List Slot → Prop} {Q : VK} {ex : XS} (hi : ∀ i ∈ is, i < ws.length) (R : Rep K B ρ σ H) (hw : wCallXK C ws is ex ρ Q')
    (hq : ∀ s v ρ' H', Post K B ρ' σ H H' s v → Sub ρ' ρ → Kp (Own ρ σ) H H' → Q' s ρ' → Q v H')
    (hx : ∀ c f v cls d ρ' H', Rep K B ρ' σ H' → Sub ρ' ρ → Kp (Own ρ σ) H H' → ExcAt K (Av B ρ' σ) H' cls d c f v → ex c f v ρ' → W cls d σ H') :
    taOf K ws σ H fun vs H1 => vs.length = ws.length ∧ spX K is.length C (perm .non vs is) H1 Q (L2.WE W σ) := by
  refine args_frz R hw fun ds vs ρ2 H2 R2 r sub kp ⟨hl, hC⟩ => ⟨by rw [r.length]; exact hl, ?_⟩
  have r' := perm_rep r (is := is) (fun i z => by rw [hl]; exact hi i z)
  refine ⟨by unfold perm; rw [List.length_map], Av B ρ2 σ, (perm .non ds is).map .fro, _, _, repL_rep (fun a z => R2.av_trk z) R2.tabs r', by rw [List.length_map, r'.length], allFro_map _, hC, fun s v ρ' H' post _ k3 h => ?_, fun c f v cls d H' k3 ea h => ?_⟩
  · have ex : Kp (fun _ => False) H2 H' := k3.mono fun a z => (allFro_map _).own z
    have k' : Kp (Own ρ σ) H H' := kp.trans (ex.mono fun _ z => z.elim) fun _ z => z
    match s, post, h with
    | .fro d, post, h => exact hq _ _ ρ2 H' (postF (R2.same ex fun a z => .inl z) (post.2.av fun a z => .inr z)) sub k' h
    | .own b o, ⟨a, hv, n, nb, R', q⟩, h =>
      subst hv
      refine hq _ _ ρ2 H' (postO (b := false) (kp.back n) (fun z => R2.btr a z n) (R2.same ex fun x z => z.elim .inl fun z => .inr ⟨by rw [z]; exact n, by rw [z]; exact q.trk⟩) (q.av fun x z => ?_)) sub k' h
      rcases z with z | z | z
      · exact .inr (.inl (.inl z))
      · exact .inr (.inl (.inr z))
      · exact .inr (.inr z)
  · exact hx c f v cls d ρ2 H' (R2.same k3 fun a z => .inl z) sub (kp.trans (k3.mono fun _ z => z.elim) fun _ z => z) ea h
theorem CalleeXK.callK {X : Cx} {W : WX} {k : Nat} {x : Str} {ps ks : List Str} {is : List Nat} {C : WDX} {p pos : Pos} {kws : List Keyword} {ws : List WE} (c : CalleeXK X.prog X.w X.K X.mg X.base k x ps ks is C) (tk : Takes X W) (hr : Room k X.A) (hgu : X.A.guards = some []) (hg : Gl X x) (hkw : MK X kws ws)
    (hn : ws.length = ks.length := by rfl) (hn2 : is.length = ps.length := by rfl) (hall : (backToKw pos (keywordEach kws X.env)).all (·.1.isSome) = true := by rfl) (hks : (backToKw pos (keywordEach kws X.env)).filterMap (·.1) = ks := by rfl)
    (hdb : (x == ("__debug__" : Str)) = false := by decide) (hpl : ((backTo pos (starEach [] X.env)).any (·.1) || (backToKw pos (keywordEach kws X.env)).any (·.1.isNone)) = false := by rfl) :
    MEX X W (.Call (.Name x p) [] kws pos) (wCallXK C ws is) := by
  obtain ⟨f, fd, F, hm, hk, hb⟩ := c.ex
  rw [← hn2] at F
  have hi : ∀ i ∈ is, i < ws.length := fun i z => by rw [hn]; exact hb.lt i z
  refine ⟨fun pins s σ H Q I ⟨B, ρ, Q', ex, R, hw, hq, hx⟩ => ?_⟩
  refine wpAny_Call_Name_kw (ld_glob I hg hm ?_ hdb)
  refine PySem.W.callWith_KW0 (h₀ := X.base) I.ok.mod.kin hk hall (thn (hkw.run pos pins s σ H _ I (callXK_ok (W := W) hi R hw hq hx)) fun us s1 ⟨vs, H1, I1, r, hl, h⟩ => ⟨I1.kIn, ?_⟩) hpl
  rw [hks]
  have hul : us.length = ks.length := by rw [← r.length, hl, hn]
  have r2 := perm_vals r (is := is) (fun i z => by rw [hul]; exact hb.lt i z)
  refine wpAny_call (codeAny_mono (F.run X.A X.stack s1 H1 ⟨[], ks.zip us⟩ (perm .none us is) (perm .non vs is) Q (L2.WE W σ) hr hgu I1.env0 (hb.to s1 us I1.kIn hul) r2 h) fun res s' hq => ?_)
  match res, hq with
  | .ok (.ret u), hq => exact I1.after hq
  | .ok .next, hq => exact hq.elim
  | .ok .brk, hq => exact hq.elim
  | .ok .cont, hq => exact hq.elim
  | .error e, hq => exact passAt tk σ pins H1 s1 e s' I1 hq
end Dl
namespace Dl
open PySem L2 PySem.Spec PyProof.Rows
variable [TabN]
end Dl
namespace Dl
open PySem L2 PySem.Spec PyProof.Rows
variable [TabN]
section
variable {X : Cx}
end
end Dl
namespace Dl
open PySem L2 PySem.Spec PyProof.Rows
variable [TabN]
section
variable {X : Cx}
theorem Post.tix {K : PySem.W.Frag} {B : Addr → Prop} {ρ : List Slot} {σ : L2.St} {H0 H : Hp} {p : Addr} {o : Obj} {ys : List Str} (R : Rep K B ρ σ H) (n : H p = none) (hd : o.dict = none) :
    Post K B ρ σ H0 (L2.upd H p (.frz o (.tup (ys.map V.str)))) (.fro (.tix ys)) (.ref p) :=
  ⟨R.ex (Ex.new n) fun a z => .inl z, .tix ⟨o, upd_same, hd⟩⟩
end
end Dl
namespace Dl
open PySem L2 PySem.Spec PyProof.Rows
variable [TabN]
section
variable {X : Cx}
end
end Dl
namespace Dl
open PySem L2 PyProof.Rows
variable [TabN]
section
variable {X : Cx} {e : Expr} {w1 : WE}
end
end Dl
namespace Dl
open PySem L2 PySem.Spec PyProof.Rows
variable [TabN]
end Dl
namespace Dl
open PySem PySem.Spec PyProof.Rows L2
variable [TabN]
section
variable {X : Cx} {o e : Expr} {w1 w2 : WE} {apos cpos : Pos}
end
end Dl
namespace Dl
open PySem PySem.Spec PyProof.Rows L2
variable [TabN]
namespace Hd
open PySem PySem.Spec PyProof.Rows L2 He
end Hd
end Dl
namespace Dl
open PySem PySem.Spec PyProof.Rows L2
variable [TabN]
theorem spx_ok {K : PySem.W.Frag} {C : WDX} {B : Addr → Prop} {ρ ρ2 : List Slot} {σ : L2.St} {H H2 : Hp} {vs : List V} {ds : List D} {n : Nat} {W : WX} {Q' : Slot → List Slot → Prop} {Q : VK} {ex : XS} (hl : ds.length = n) (R2 : Rep K B ρ2 σ H2) (r : RepL K (Av B ρ2 σ) H2 vs ds) (sub : Sub ρ2 ρ) (kp : Kp (Own ρ σ) H H2)
    (hC : C (fun c f v => ex c f v ρ2) (ds.map .fro) fun r _ => match r with
      | .fro d => Q' (.fro d) ρ2
      | .own _ o => Q' (.own false o) ρ2
      | _ => False)
    (hq : ∀ s v ρ' H', Post K B ρ' σ H H' s v → Sub ρ' ρ → Kp (Own ρ σ) H H' → Q' s ρ' → Q v H')
    (hx : ∀ c f v cls d ρ' H', Rep K B ρ' σ H' → Sub ρ' ρ → Kp (Own ρ σ) H H' → ExcAt K (Av B ρ' σ) H' cls d c f v → ex c f v ρ' → W cls d σ H') :
    spX K n C vs H2 Q (L2.WE W σ) := by
  refine ⟨by rw [r.length]; exact hl, Av B ρ2 σ, ds.map .fro, _, _, repL_rep (fun a z => R2.av_trk z) R2.tabs r, by rw [List.length_map, r.length], allFro_map ds, hC, fun s v ρ' H' post _ k3 h => ?_, fun c f v cls d H' k3 ea h => ?_⟩
  · have ex : Kp (fun _ => False) H2 H' := k3.mono fun a z => (allFro_map ds).own z
    have k' : Kp (Own ρ σ) H H' := kp.trans (ex.mono fun _ z => z.elim) fun _ z => z
    match s, post, h with
    | .fro d, post, h => exact hq _ _ ρ2 H' (postF (R2.same ex fun a z => .inl z) (post.2.av fun a z => .inr z)) sub k' h
    | .own b o, ⟨a, hv, n, nb, R', q⟩, h =>
      subst hv
      refine hq _ _ ρ2 H' (postO (b := false) (kp.back n) (fun z => R2.btr a z n) (R2.same ex fun x z => z.elim .inl fun z => .inr ⟨by rw [z]; exact n, by rw [z]; exact q.trk⟩) (q.av fun x z => ?_)) sub k' h
      rcases z with z | z | z
      · exact .inr (.inl (.inl z))
      · exact .inr (.inl (.inr z))
      · exact .inr (.inr z)
  · exact hx c f v cls d ρ2 H' (R2.same k3 fun a z => .inl z) sub (kp.trans (k3.mono fun _ z => z.elim) fun _ z => z) ea h
def wCallXPK (C : WDX) (ws us : List WE) : WEX := fun ex ρ Q => wArgs ws ρ fun ss ρ1 => ss.length = ws.length ∧ wArgs us ρ1 fun zs ρ2 => zs.length = us.length ∧ frzL ρ2 (ss ++ zs) fun ds ρ3 => ds.length = ws.length + us.length ∧ C (fun c f v => ex c f v ρ3) (ds.map .fro) fun r _ => match r with
  | .fro d => Q (.fro d) ρ3
  | .own _ o => Q (.own false o) ρ3
  | _ => False
theorem callXPK_ok {K : PySem.W.Frag} {C : WDX} {B : Addr → Prop} {ρ : List Slot} {σ : L2.St} {H : Hp} {ws us : List WE} {W : WX} {Q' : Slot → List Slot → Prop} {Q : VK} {ex : XS} (R : Rep K B ρ σ H) (hw : wCallXPK C ws us ex ρ Q') (hq : ∀ s v ρ' H', Post K B ρ' σ H H' s v → Sub ρ' ρ → Kp (Own ρ σ) H H' → Q' s ρ' → Q v H')
    (hx : ∀ c f v cls d ρ' H', Rep K B ρ' σ H' → Sub ρ' ρ → Kp (Own ρ σ) H H' → ExcAt K (Av B ρ' σ) H' cls d c f v → ex c f v ρ' → W cls d σ H') :
    taOf K ws σ H fun vs H1 => vs.length = ws.length ∧ taOf K us σ H1 fun zs H2 => zs.length = us.length ∧ spX K (ws.length + us.length) C (vs ++ zs) H2 Q (L2.WE W σ) := by
  refine ⟨B, ρ, _, R, hw, fun ss vs ρ1 B1 H1 b1 b1' R1 P1 sub kp ⟨l1, hw1⟩ => ⟨by rw [← pendL_len P1]; exact l1, B1, ρ1, _, R1, hw1, fun zs xs ρ2 B2 H2 b2 b2' R2 P2 sub2 kp2 ⟨l2, q⟩ => ⟨by rw [← pendL_len P2]; exact l2, ?_⟩⟩⟩
  have PP := pendL_app (P1.step R1 kp2 sub2 b2 b2') (pendL_start kp P2)
  have bb : ∀ a, B a → B2 a := fun a z => b2 a (b1 a z)
  obtain ⟨ds, ρ3, ⟨hl, hC⟩, R3, s3, r3⟩ := frzL_ok (B0 := B) (H0 := H) bb R.btr R2 PP q
  exact spx_ok hl (R3.fewer bb) r3 ((sub.trans sub2).trans s3) (kp.trans kp2 fun a z => sub.own a z) hC hq hx
structure CalleeXN (P : Program) (w : World) (K : PySem.W.Frag) (mg : Str → Option Value) (base : Heap) (k : Nat) (x : Str) (ps : List Str) (n : Nat) (ks : List Str) (C : WDX) : Prop where
  ex : ∃ (f : Addr) (fd : FuncData), FnG P w K mg base (L2.CX P w) k f fd ps (spX K ps.length C) ∧ mg x = some (.ref f) ∧ PySem.W.keepIn K (.ref f) = true ∧ ∀ (s : Shared) (us ws : List Value), K.In s.heap → us.length = n → ws.length = ks.length → BindsTo s fd ⟨us, ks.zip ws⟩ (ps.zip (us ++ ws))
theorem CalleeXN.callN {X : Cx} {W : WX} {k n : Nat} {x : Str} {ps ks : List Str} {C : WDX} {p pos : Pos} {e : Expr} {es : List Expr} {kws : List Keyword} {ws us : List WE} (c : CalleeXN X.prog X.w X.K X.mg X.base k x ps n ks C) (tk : Takes X W) (hr : Room k X.A) (hgu : X.A.guards = some []) (hg : Gl X x) (ha : MA X (e :: es) ws) (hkw : MK X kws us)
    (hn : ws.length = n := by rfl) (hn1 : us.length = ks.length := by rfl) (hn2 : (ws ++ us).length = ps.length := by rfl) (hall : (backToKw pos (keywordEach kws X.env)).all (·.1.isSome) = true := by rfl) (hks : (backToKw pos (keywordEach kws X.env)).filterMap (·.1) = ks := by rfl)
    (hdb : (x == ("__debug__" : Str)) = false := by decide) (he : starEach (e :: es) X.env = (false, eval e X.env) :: starEach es X.env := by rfl) (hpl : ((backTo pos (starEach (e :: es) X.env)).any (·.1) || (backToKw pos (keywordEach kws X.env)).any (·.1.isNone)) = false := by rfl) :
    MEX X W (.Call (.Name x p) (e :: es) kws pos) (wCallXPK C ws us) := by
  obtain ⟨f, fd, F, hm, hk, hb⟩ := c.ex
  rw [← hn2, List.length_append] at F
  refine ⟨fun pins s σ H Q I ⟨B, ρ, Q', ex, R, hw, hq, hx⟩ => ?_⟩
  refine wpAny_Call_Name_kw (ld_glob I hg hm ?_ hdb)
  refine PySem.W.callWith_KW (h₀ := X.base) I.ok.mod.kin hk hall (thn (PA.run ha pos pins s σ H _ I (callXPK_ok (W := W) R hw hq hx)) fun vu s1 ⟨vs, H1, I1, r, l1, q⟩ => ?_) hpl he
  refine thn (PK.run hkw pos pins s1 σ H1 _ I1 q) fun zu s2 ⟨zs, H2, I2, rz, l2, q2⟩ => ⟨I2.kIn, ?_⟩
  rw [hks]
  have e1 : vu.length = n := by rw [← r.length, l1, hn]
  have e2 : zu.length = ks.length := by rw [← rz.length, l2, hn1]
  refine wpAny_call (codeAny_mono (F.run X.A X.stack s2 H2 ⟨vu, ks.zip zu⟩ (vu ++ zu) (vs ++ zs) Q (L2.WE W σ) hr hgu I2.env0 (hb s2 vu zu I2.kIn e1 e2) (r.append rz) q2) fun res s' hq => ?_)
  match res, hq with
  | .ok (.ret u), hq => exact I2.after hq
  | .ok .next, hq => exact hq.elim
  | .ok .brk, hq => exact hq.elim
  | .ok .cont, hq => exact hq.elim
  | .error e, hq => exact passAt tk σ pins H2 s2 e s' I2 hq
structure CalleeXD (P : Program) (w : World) (K : PySem.W.Frag) (mg : Str → Option Value) (base : Heap) (k : Nat) (x : Str) (ps : List Str) (d : D) (C : WDX) : Prop where
  ex : ∃ (f : Addr) (fd : FuncData) (v : V) (u : Value), FnG P w K mg base (L2.CX P w) k f fd ps (spX K ps.length C) ∧ mg x = some (.ref f) ∧ PySem.W.keepIn K (.ref f) = true ∧ (∀ A H, RepV K A H v d) ∧ Vals [v] [u] ∧ Binds K fd ps [u]
theorem CalleeXD.call {X : Cx} {W : WX} {k : Nat} {x : Str} {ps : List Str} {d : D} {C : WDX} {p pos : Pos} {e : Expr} {es : List Expr} {ws : List WE} (c : CalleeXD X.prog X.w X.K X.mg X.base k x ps d C) (tk : Takes X W) (hr : Room k X.A) (hgu : X.A.guards = some []) (hg : Gl X x) (ha : MA X (e :: es) ws)
    (hn : ws.length + 1 = ps.length := by rfl) (hdb : (x == ("__debug__" : Str)) = false := by decide) (he : starEach (e :: es) X.env = (false, eval e X.env) :: starEach es X.env := by rfl) (hpl : (backTo pos (starEach es X.env)).any (·.1) = false := by rfl) :
    MEX X W (.Call (.Name x p) (e :: es) [] pos) (wCallXPK C ws [wC d]) := by
  obtain ⟨f, fd, v, u0, F, hm, hk, hv, hd, hb⟩ := c.ex
  rw [← hn] at F
  refine ⟨fun pins s σ H Q I ⟨B, ρ, Q', ex, R, hw, hq, hx⟩ => ?_⟩
  refine wpAny_Call_Name_kw (ld_glob I hg hm ?_ hdb)
  have h := ta_mono (callXPK_ok (W := W) (us := [wC d]) R hw hq hx) fun vs H1 h => And.intro h.1 (ta_wC hv h.2).2
  refine PySem.W.callWith_K (h₀ := X.base) I.ok.mod.kin hk (thn (ha.run pos pins s σ H _ I h) fun us s1 ⟨vs, H1, I1, r, hl, q⟩ => ⟨I1.kIn, ?_⟩) he hpl
  have e1 : (us ++ [u0]).length = ps.length := by rw [List.length_append, ← r.length, hl, ← hn]; rfl
  refine wpAny_call (codeAny_mono (F.run X.A X.stack s1 H1 ⟨us, []⟩ (us ++ [u0]) (vs ++ [v]) Q (L2.WE W σ) hr hgu I1.env0 (hb s1 us I1.kIn e1) (r.append hd) q) fun res s' hq => ?_)
  match res, hq with
  | .ok (.ret u), hq => exact I1.after hq
  | .ok .next, hq => exact hq.elim
  | .ok .brk, hq => exact hq.elim
  | .ok .cont, hq => exact hq.elim
  | .error e, hq => exact passAt tk σ pins H1 s1 e s' I1 hq
end Dl
namespace Dl
open PySem L2 PySem.Spec PyProof.Rows
variable [TabN]
theorem RepK.at' {K : PySem.W.Frag} {A : Addr → Prop} {H : Hp} : ∀ {kvs : List (Key × V)} {kds : List (Key × D)} {i : Nat} {p : Key × D}, RepK K A H kvs kds → kds[i]? = some p → ∃ v, kvs[i]? = some (p.1, v) ∧ RepV K A H v p.2
  | _, _, _, _, .nil, e => by simp at e
  | _, _, 0, _, .cons h _, e => by simp at e; subst e; exact ⟨_, rfl, h⟩
  | _, _, i + 1, p, .cons _ r, e => by
    obtain ⟨v, h1, h2⟩ := RepK.at' (i := i) (p := p) r (by simpa using e)
    exact ⟨v, by simpa using h1, h2⟩
end Dl
namespace Dl
open PySem L2 PySem.Spec PyProof.Rows
variable [TabN]
end Dl
namespace Dl
open PySem L2 PySem.Spec PyProof.Rows
variable [TabN]
section
variable {prog : Program} {w : World} {κ : Type} [DecidableEq κ] {knd : KeyKind prog w κ} {A : Around} {E : Value → Shared → Prop} {s : Shared}
end
end Dl
namespace Dl
open PySem L2 PySem.Spec PyProof.Rows
variable [TabN]
section
variable {M : Model} {A : Around} {E : Value → Shared → Prop} {s : Shared}
end
section
variable {X : Cx} {pins : List (Addr × Obj)} {σ : L2.St} {H : Hp} {s : Shared}
end
end Dl
namespace Dl
open PySem L2 PySem.Spec PyProof.Rows
variable [TabN]
section
variable {X : Cx}
end
end Dl
namespace Dl
open PySem L2 PySem.Spec PyProof.Rows PySem.W
variable [TabN]
structure CallG (P : Program) (w : World) (K : PySem.W.Frag) (mg : Str → Option Value) (base : Heap) (k : Nat) (c : Str) (ps : List Str) (Cd : WE) : Prop where
  ex : ∀ C, ClsAt K c C → ∃ (f : Addr) (fd : FuncData), findIn K (.ref C) "__call__" = some (some (.ref f)) ∧ isFn K (.ref f) = true ∧ fnIn K f = true ∧ FnG P w K mg base CX0 k f fd ps (spOf K ps.length Cd) ∧ Binds K fd ps []
section
variable {X : Cx} {fe e : Expr} {w1 w2 : WE} {pos : Pos}
end
end Dl
namespace Zy
open PySem PySem.Spec PyProof.Rows Zm
open Zl (ZG Off)
structure ZSt (b1 b2 : Bool) (z TI TO i1 i2 l1 l2 S : Addr) (xs ys : Array Value) (i : Nat) (h : Heap) : Prop where
  tI : IsPair h TI (.ref i1) (.ref i2)
  h1 : SIt b1 h i1 l1 i
  h2 : SIt b2 h i2 l2 i
  l1 : SAt b1 h l1 xs
  l2 : SAt b2 h l2 ys
  hz : (IsZip h z TI TO .none ∧ ∃ a b, IsPair h TO a b) ∨ ∃ T f oT, IsZipHeld h z TI TO T f ∧ h.get? T = some oT ∧ T ≠ z ∧ T ≠ i1 ∧ T ≠ i2 ∧ T ≠ S
section
variable {prog : Program} {w : World} {A : Around} {E : Value → Shared → Prop} {s : Shared} {b1 b2 : Bool} {z TI TO i1 i2 l1 l2 S : Addr} {xs ys : Array Value}
variable {R : Result → Shared → Prop}
theorem ZSt.zip {i : Nat} {h : Heap} (st : ZSt b1 b2 z TI TO i1 i2 l1 l2 S xs ys i h) : ∃ v f, h.get? z = some { cls := .type "zip", dict := none, data := .fields #[v, .bool f, .bool false, .ref TI, .ref TO], slots := #[] } := by
  rcases st.hz with ⟨hz, _⟩ | ⟨T, f, oT, hz, _⟩
  · exact ⟨_, _, hz⟩
  · exact ⟨_, _, hz⟩
end
end Zy
namespace Zy
open PySem PySem.Spec PyProof.Rows L2 Zm
open Zl (zip_laid)
section
variable {X : Cx}
end
end Zy
namespace Dl
open PySem L2 PySem.Spec PyProof.Rows
variable [TabN]
end Dl
namespace Dl
open PySem PySem.Spec PyProof.Rows L2
variable [TabN]
abbrev Sto := Addr → Option O
def noS : Sto := fun _ => none
section
variable {K : PySem.W.Frag} {B B' : Addr → Prop} {ρ : List Slot} {σ : L2.St} {H H' : Hp} {a : Addr} {o o' : O}
theorem own_setS {i : Nat} {S T : Sto} (h : ρ[i]? = some (.sto S)) (k : ∀ a, T a ≠ none → S a ≠ none) (x : Addr) (z : Own (ρ.set i (.sto T)) σ x) : Own ρ σ x := by
  rcases z with ⟨j, b, u, e1, e2⟩ | ⟨j, U, e1, e2⟩
  · rcases getElem?_set_of e1 with ⟨_, z⟩ | ⟨_, z⟩
    · cases z
    · exact .inl ⟨j, b, u, z, e2⟩
  · rcases getElem?_set_of e1 with ⟨rfl, z⟩ | ⟨_, z⟩
    · cases z; exact .inr ⟨_, S, h, k x e2⟩
    · exact .inr ⟨j, U, z, e2⟩
theorem sub_setS {i : Nat} {S T : Sto} (h : ρ[i]? = some (.sto S)) (k : ∀ a, T a ≠ none → S a ≠ none) : Sub (ρ.set i (.sto T)) ρ := by
  have hi := (List.getElem?_eq_some_iff.mp h).1
  refine ⟨fun j c p e => ?_, fun j p e => ?_, fun j U e => ?_, fun j U e => ?_⟩
  · rcases getElem?_set_of e with ⟨rfl, z⟩ | ⟨_, z⟩
    · cases z
    · exact ⟨p, z⟩
  · exact ⟨p, by rw [List.getElem?_set_ne (fun z => by subst z; rw [h] at e; cases e)]; exact e⟩
  · rcases getElem?_set_of e with ⟨rfl, z⟩ | ⟨_, z⟩
    · cases z; exact ⟨S, h, k⟩
    · exact ⟨U, z, fun _ z => z⟩
  · by_cases n : i = j
    · subst n; exact ⟨T, List.getElem?_set_self hi⟩
    · exact ⟨U, by rw [List.getElem?_set_ne n]; exact e⟩
def noLck : O → Prop
  | .lck _ => False
  | _ => True
theorem OOkS.of {A : Addr → Prop} (n : noLck o) (h : OOkS K A H a o) : OOk K A H a o := by
  cases o with
  | lst ds => exact h
  | dct ds => exact h
  | obj c ds => exact h
  | lck ds => exact n.elim
end
section
variable {X : Cx} {e : Expr} {w : WE}
end
section
variable {X : Cx} {e : Expr} {w : WE} {pos : Pos}
end
end Dl
namespace Dl
open PySem PySem.Spec PyProof.Rows L2
variable [TabN]
def stoS : List Slot → Sto
  | [] => noS
  | .sto S :: _ => S
  | _ :: ρ => stoS ρ
def putS : List Slot → Sto → List Slot
  | [], _ => []
  | .sto _ :: ρ, S => .sto S :: ρ
  | s :: ρ, S => s :: putS ρ S
theorem hasS_at : ∀ {ρ : List Slot}, hasS ρ → ∃ i : Nat, ρ[i]? = some (.sto (stoS ρ)) ∧ (∀ S, putS ρ S = ρ.set i (.sto S)) ∧ ∀ a, gho ρ a = stoS ρ a
  | .sto T :: ρ, _ => ⟨0, rfl, fun _ => rfl, fun _ => rfl⟩
  | .nil :: ρ, h => let ⟨i, e, q, r⟩ := hasS_at (ρ := ρ) h; ⟨i + 1, by simpa [stoS] using e, fun S => by rw [putS, q S, List.set_cons_succ] <;> exact nofun, r⟩
  | .fro _ :: ρ, h => let ⟨i, e, q, r⟩ := hasS_at (ρ := ρ) h; ⟨i + 1, by simpa [stoS] using e, fun S => by rw [putS, q S, List.set_cons_succ] <;> exact nofun, r⟩
  | .own _ _ :: ρ, h => let ⟨i, e, q, r⟩ := hasS_at (ρ := ρ) h; ⟨i + 1, by simpa [stoS] using e, fun S => by rw [putS, q S, List.set_cons_succ] <;> exact nofun, r⟩
  | .var _ :: ρ, h => let ⟨i, e, q, r⟩ := hasS_at (ρ := ρ) h; ⟨i + 1, by simpa [stoS] using e, fun S => by rw [putS, q S, List.set_cons_succ] <;> exact nofun, r⟩
  | .at _ :: ρ, h => let ⟨i, e, q, r⟩ := hasS_at (ρ := ρ) h; ⟨i + 1, by simpa [stoS] using e, fun S => by rw [putS, q S, List.set_cons_succ] <;> exact nofun, r⟩
  | .bun _ _ :: ρ, h => let ⟨i, e, q, r⟩ := hasS_at (ρ := ρ) h; ⟨i + 1, by simpa [stoS] using e, fun S => by rw [putS, q S, List.set_cons_succ] <;> exact nofun, r⟩
section
variable {K : PySem.W.Frag} {B B' : Addr → Prop} {ρ : List Slot} {σ : L2.St} {H H' : Hp}
theorem Rep.setSto {i : Nat} {S S' : Sto} {T : Addr → Prop} (R : Rep K B ρ σ H) (h : ρ[i]? = some (.sto S)) (k : ∀ a, S' a ≠ none → S a ≠ none) (kp : Kp T H H') (hT : ∀ x, T x → Av B ρ σ x) (hno : ∀ (x : Addr) (j : Nat) (b : Bool) (o : O), ρ[j]? = some (.own b o) → σ[j]? = some (some (.ref x)) → ¬ T x) (hb : ∀ x, B' x → B x ∨ (H x = none ∧ H' x ≠ none))
    (r : ∀ a o, S' a = some o → OOkS K (Av B' (ρ.set i (.sto S')) σ) H' a o) :
    Rep K B' (ρ.set i (.sto S')) σ H' ∧ Sub (ρ.set i (.sto S')) ρ := by
  have hi := (List.getElem?_eq_some_iff.mp h).1
  have sub := sub_setS h k
  have av : ∀ x, Av B' (ρ.set i (.sto S')) σ x → Av B ρ σ x ∨ H x = none := fun x z => z.elim (fun z => .inl (.inl (own_setS h k x z))) fun z => (hb x z).elim (fun z => .inl (.inr z)) fun z => .inr z.1
  refine ⟨⟨R.shp.sub (List.length_set) sub, fun j s f => ?_, fun x z => (hb x z).elim (fun z => kp.trk x (R.btr x z)) fun z => z.2, fun x z w => ?_, kp.tab R.tabs⟩, sub⟩
  · rcases getElem?_set_of f with ⟨rfl, rfl⟩ | ⟨n, z⟩
    · exact ⟨(R.slot _ _ h).1, r⟩
    · refine (R.slot j s z).mono kp hT av (fun c p y e1 e2 => ?_) fun T y e1 e2 _ => ?_
      · subst e1; exact hno y j c p z e2
      · subst e1; exact n (R.one i j S T h z)
  · have z' := own_setS h k x z
    rcases hb x w with w | w
    · exact R.dis x z' w
    · exact R.own_trk z' w.1
end
def spS (K : PySem.W.Frag) (n : Nat) (C : WE) : Sp := fun vs H Q _ => vs.length = n ∧ ∃ (B : Addr → Prop) (as : List Slot) (S : Sto) (Q' : Slot → List Slot → Prop), Rep K B (as ++ [.sto S]) (vs.map some) H ∧ as.length = vs.length ∧ C (as ++ [.sto S]) Q' ∧
  ∀ s v ρ' H', Post K B ρ' (vs.map some) H H' s v → Sub ρ' (as ++ [.sto S]) → Kp (Own (as ++ [.sto S]) (vs.map some)) H H' → Q' s ρ' → Q v H'
def backS (Q : Slot → List Slot → Prop) (ρ : List Slot) : Slot → List Slot → Prop := fun r outs => match r with
  | .fro d => Q (.fro d) (putS ρ (stoS outs))
  | .own _ o => Q (.own false o) (putS ρ (stoS outs))
  | .bun d T => Q (.bun d T) (putS ρ (stoS outs))
  | _ => False
section
variable {K : PySem.W.Frag} {B : Addr → Prop} {ρ : List Slot} {σ : L2.St} {H : Hp}
theorem stoS_of {ρ : List Slot} {j : Nat} {S : Sto} (h : ρ[j]? = some (.sto S)) (one : ∀ (i j : Nat) (S T : Sto), ρ[i]? = some (.sto S) → ρ[j]? = some (.sto T) → i = j) : stoS ρ = S := by
  have hh : hasS ρ := by
    clear one
    induction ρ generalizing j with
    | nil => cases h
    | cons s r ih =>
      cases j with
      | zero => cases h; trivial
      | succ j =>
        have := ih (j := j) (by simpa using h)
        cases s <;> first | exact this | trivial
  obtain ⟨i, e, _, _⟩ := hasS_at hh
  have := one i j _ _ e h
  subst this
  rw [e] at h; cases h; rfl
theorem rep_sto {A : Addr → Prop} {vs : List V} {ds : List D} {S : Sto} (ht : ∀ x, A x → H x ≠ none) (tb : TabsN H) (hS : ∀ a o, S a = some o → OOkS K A H a o ∧ A a) (r : RepL K A H vs ds) :
    Rep K (fun x => A x ∧ S x = none) (ds.map .fro ++ [.sto S]) (vs.map some) H ∧ (∀ x, Own (ds.map .fro ++ [.sto S]) (vs.map some) x ↔ S x ≠ none) ∧ ∀ x, Av (fun x => A x ∧ S x = none) (ds.map .fro ++ [.sto S]) (vs.map some) x ↔ A x := by
  have hl := r.length
  have got : ∀ {i : Nat} {s : Slot}, (ds.map Slot.fro ++ [Slot.sto S])[i]? = some s → (∃ d, ds[i]? = some d ∧ s = .fro d) ∨ (i = ds.length ∧ s = .sto S) := fun {i s} e => by
    rcases app_get e with e | ⟨hi, e⟩
    · rw [List.getElem?_map] at e
      cases q : ds[i]? with
      | none => rw [q] at e; cases e
      | some d => rw [q] at e; cases e; exact .inl ⟨d, rfl, rfl⟩
    · rw [List.length_map] at hi e
      by_cases z : i = ds.length
      · subst z; rw [Nat.sub_self] at e; cases e; exact .inr ⟨rfl, rfl⟩
      · have : 1 ≤ i - ds.length := by omega
        rw [List.getElem?_eq_none (by simpa using this)] at e; cases e
  have own : ∀ x, Own (ds.map .fro ++ [.sto S]) (vs.map some) x ↔ S x ≠ none := fun x => by
    constructor
    · rintro (⟨i, b, o, e, _⟩ | ⟨i, T, e, q⟩)
      · rcases got e with ⟨d, _, z⟩ | ⟨_, z⟩ <;> cases z
      · rcases got e with ⟨d, _, z⟩ | ⟨_, z⟩
        · cases z
        · cases z; exact q
    · exact fun z => .inr ⟨ds.length, S, by rw [List.getElem?_append_right (by rw [List.length_map]; exact Nat.le_refl _), List.length_map, Nat.sub_self]; rfl, z⟩
  have av : ∀ x, Av (fun x => A x ∧ S x = none) (ds.map .fro ++ [.sto S]) (vs.map some) x ↔ A x := fun x => by
    constructor
    · rintro (z | z)
      · have := (own x).1 z
        cases e : S x with
        | none => exact absurd e this
        | some o => exact (hS x o e).2
      · exact z.1
    · intro z
      cases e : S x with
      | none => exact .inr ⟨z, e⟩
      | some o => exact .inl ((own x).2 (by rw [e]; exact nofun))
  refine ⟨⟨⟨by simp [hl], fun i s e => ?_, fun i j b o b' o' a e _ _ _ => ?_, fun i j T b o a _ e _ => ?_, fun i j T U e1 e2 => ?_⟩, fun i s e => ?_, fun x z => ht x z.1, fun x z w => (own x).1 z w.2, tb⟩, own, av⟩
  · rcases got e with ⟨d, q, _⟩ | ⟨_, z⟩
    · have := (List.getElem?_eq_some_iff.mp q).1
      exact .inl (by rw [List.length_map, hl]; exact this)
    · exact .inr ⟨S, z⟩
  · rcases got e with ⟨d, _, z⟩ | ⟨_, z⟩ <;> cases z
  · rcases got e with ⟨d, _, z⟩ | ⟨_, z⟩ <;> cases z
  · rcases got e1 with ⟨d, _, z⟩ | ⟨h1, _⟩
    · cases z
    · rcases got e2 with ⟨d, _, z⟩ | ⟨h2, _⟩
      · cases z
      · rw [h1, h2]
  · rcases got e with ⟨d, q, z⟩ | ⟨hi, z⟩
    · subst z
      obtain ⟨v, e1, rv⟩ := r.get q
      exact ⟨v, by rw [List.getElem?_map, e1]; rfl, rv.av fun x z => (av x).1 z⟩
    · subst z hi
      exact ⟨by rw [List.getElem?_map, List.getElem?_eq_none (by rw [hl]; exact Nat.le_refl _)]; rfl, fun a o z => (hS a o z).1.av fun x z => (av x).1 z⟩
theorem spS_ok {C : WE} {ρ2 : List Slot} {H2 : Hp} {vs : List V} {ds : List D} {Q' : Slot → List Slot → Prop} {Q : VK} {E : XK} (R2 : Rep K B ρ2 σ H2) (hs : hasS ρ2) (r : RepL K (Av B ρ2 σ) H2 vs ds) (sub : Sub ρ2 ρ) (kp : Kp (Own ρ σ) H H2)
    (hC : C (ds.map .fro ++ [.sto (stoS ρ2)]) (backS Q' ρ2)) (hq : ∀ s v ρ' H', Post K B ρ' σ H H' s v → Sub ρ' ρ → Kp (Own ρ σ) H H' → Q' s ρ' → Q v H') : spS K ds.length C vs H2 Q E := by
  obtain ⟨i, ei, ep, eg⟩ := hasS_at hs
  have sl := R2.slot i _ ei
  have ow : ∀ x, stoS ρ2 x ≠ none → Own ρ2 σ x := fun x z => .inr ⟨i, _, ei, z⟩
  obtain ⟨Rc, own, av⟩ := rep_sto (vs := vs) (ds := ds) (S := stoS ρ2) (fun x z => R2.av_trk z) R2.tabs (fun a o z => ⟨sl.2 a o z, .inl (ow a (by rw [z]; exact nofun))⟩) r
  refine ⟨r.length, _, ds.map .fro, stoS ρ2, _, Rc, by rw [List.length_map, r.length], hC, fun s v outs H' post so k3 h => ?_⟩
  have kT : Kp (fun x => stoS ρ2 x ≠ none) H2 H' := k3.mono fun x z => (own x).1 z
  -- the store at the end
  obtain ⟨S', eS'⟩ := so.stl ds.length (stoS ρ2) (by rw [List.getElem?_append_right (by rw [List.length_map]; exact Nat.le_refl _), List.length_map, Nat.sub_self]; rfl)
  have Ro := post.rep
  have hst : stoS outs = S' := stoS_of eS' Ro.one
  have kS : ∀ a, S' a ≠ none → stoS ρ2 a ≠ none := fun a z => by
    obtain ⟨T, eT, hk⟩ := so.sto ds.length S' eS'
    rw [List.getElem?_append_right (by rw [List.length_map]; exact Nat.le_refl _), List.length_map, Nat.sub_self] at eT
    cases eT; exact hk a z
  have noT : ∀ (x : Addr) (j : Nat) (b : Bool) (o : O), ρ2[j]? = some (.own b o) → σ[j]? = some (some (.ref x)) → ¬ stoS ρ2 x ≠ none := fun x j b o e1 e2 z => z (R2.snd i j _ b o x ei e1 e2)
  have k' : Kp (Own ρ σ) H H' := kp.trans kT fun x z => sub.own x (ow x z)
  -- from the caller's view to the callee's
  have inc : ∀ {Bx : Addr → Prop} {x : Addr}, (∀ y, Bx y → B y ∨ H2 y = none) → Av Bx (ρ2.set i (.sto S')) σ x → Av (fun x => (Av B ρ2 σ x ∧ stoS ρ2 x = none) ∨ (Bx x ∧ ¬ B x)) outs (vs.map some) x := fun {Bx x} hb z => by
    rcases z with (⟨j, b, o, e1, e2⟩ | ⟨j, T, e1, e2⟩) | z
    · rcases getElem?_set_of e1 with ⟨_, z⟩ | ⟨_, z⟩
      · cases z
      · exact .inr (.inl ⟨.inl (.inl ⟨j, b, o, z, e2⟩), R2.snd i j _ b o x ei z e2⟩)
    · rcases getElem?_set_of e1 with ⟨rfl, z⟩ | ⟨n, z⟩
      · cases z; exact .inl (.inr ⟨ds.length, _, eS', e2⟩)
      · exact absurd (R2.one i j _ T ei z) n
    · by_cases hB : B x
      · refine .inr (.inl ⟨.inr hB, ?_⟩)
        cases e : stoS ρ2 x with
        | none => rfl
        | some o => exact absurd hB (R2.dis x (ow x (by rw [e]; exact nofun)))
      · exact .inr (.inr ⟨z, hB⟩)
  have fin : ∀ (Bx : Addr → Prop) (hb : ∀ y, Bx y → B y ∨ (H2 y = none ∧ H' y ≠ none)), Rep K (fun x => (Av B ρ2 σ x ∧ stoS ρ2 x = none) ∨ (Bx x ∧ ¬ B x)) outs (vs.map some) H' → Rep K Bx (putS ρ2 S') σ H' ∧ Sub (putS ρ2 S') ρ2 := fun Bx hb Rx => by
    rw [ep S']
    refine R2.setSto (S := stoS ρ2) ei kS kT (fun x z => .inl (ow x z)) noT hb fun a o z => ?_
    exact ((Rx.slot _ _ eS').2 a o z).av fun x z => inc (fun y z => (hb y z).imp id fun z => z.1) z
  have same : ∀ x, ((Av B ρ2 σ x ∧ stoS ρ2 x = none) ∨ (B x ∧ ¬ B x)) ↔ (Av B ρ2 σ x ∧ stoS ρ2 x = none) := fun x => ⟨fun z => z.elim id fun z => absurd z.1 z.2, .inl⟩
  have sameF : (fun x => (Av B ρ2 σ x ∧ stoS ρ2 x = none) ∨ (B x ∧ ¬ B x)) = fun x => Av B ρ2 σ x ∧ stoS ρ2 x = none := funext fun x => propext (same x)
  match s, post, h with
  | .fro d, post, h =>
    have h : Q' (.fro d) (putS ρ2 (stoS outs)) := h
    rw [hst] at h
    obtain ⟨R5, s5⟩ := fin B (fun y z => .inl z) (by rw [sameF]; exact post.1)
    refine hq _ _ _ _ (postF R5 (post.2.av fun x z => ?_)) (sub.trans s5) k' h
    rw [ep S'] at z
    have := inc (fun y z => .inl z) z
    rw [sameF] at this; exact this
  | .own b o, ⟨a, hv, n, nb, R4, q4⟩, h =>
    subst hv
    have h : Q' (.own false o) (putS ρ2 (stoS outs)) := h
    rw [hst] at h
    have nBa : ¬ B a := fun z => R2.btr a z n
    have eF : (fun x => (Av B ρ2 σ x ∧ stoS ρ2 x = none) ∨ x = a) = fun x => (Av B ρ2 σ x ∧ stoS ρ2 x = none) ∨ ((B x ∨ x = a) ∧ ¬ B x) := funext fun x => propext ⟨fun z => z.imp id fun z => by subst z; exact ⟨.inr rfl, nBa⟩, fun z => z.imp id fun z => z.1.elim (fun y => absurd y z.2) id⟩
    rw [eF] at R4 q4
    have hb2 : ∀ y, (B y ∨ y = a) → B y ∨ (H2 y = none ∧ H' y ≠ none) := fun y z => z.imp id fun z => by rw [z]; exact ⟨n, q4.trk⟩
    obtain ⟨R5, s5⟩ := fin (fun x => B x ∨ x = a) hb2 R4
    refine hq _ _ _ _ (postO (b := false) (kp.back n) nBa R5 (q4.av fun x z => ?_)) (sub.trans s5) k' h
    rw [ep S'] at z
    exact inc (fun y z => (hb2 y z).imp id fun z => z.1) z
  | .bun d T, ⟨hn, R4, rv, ro⟩, h =>
    have h : Q' (.bun d T) (putS ρ2 (stoS outs)) := h
    rw [hst] at h
    have nB : ∀ x, T x ≠ none → ¬ B x := fun x z y => R2.btr x y (hn x z).1
    have eF : (fun x => (Av B ρ2 σ x ∧ stoS ρ2 x = none) ∨ T x ≠ none) = fun x => (Av B ρ2 σ x ∧ stoS ρ2 x = none) ∨ ((B x ∨ T x ≠ none) ∧ ¬ B x) := funext fun x => propext ⟨fun z => z.imp id fun z => ⟨.inr z, nB x z⟩, fun z => z.imp id fun z => z.1.elim (fun y => absurd y z.2) id⟩
    rw [eF] at R4 rv ro
    have hb2 : ∀ y, (B y ∨ T y ≠ none) → B y ∨ (H2 y = none ∧ H' y ≠ none) := fun y z => z.imp id fun z => ⟨(hn y z).1, by
      cases e : T y with
      | none => exact absurd e z
      | some o => exact (ro y o e).trk⟩
    obtain ⟨R5, s5⟩ := fin (fun x => B x ∨ T x ≠ none) hb2 R4
    have inc2 : ∀ x, Av (fun x => B x ∨ T x ≠ none) (putS ρ2 S') σ x → _ := fun x z => by
      rw [ep S'] at z
      exact inc (Bx := fun x => B x ∨ T x ≠ none) (fun y z => (hb2 y z).imp id fun z => z.1) z
    refine hq (.bun d T) _ _ _ ⟨fun x z => ⟨kp.back (hn x z).1, nB x z⟩, R5, rv.av inc2, fun a o z => (ro a o z).av inc2⟩ (sub.trans s5) k' h
end
end Dl
namespace Dl
open PySem PySem.Spec PyProof.Rows L2
variable [TabN]
def rst (S0 S : Sto) : Sto := fun a => match S0 a with
  | none => none
  | some _ => S a
section
variable {K : PySem.W.Frag} {B : Addr → Prop} {as : List Slot} {vs : List V} {H : Hp} {S0 : Sto}
theorem arg_sto : (as ++ [Slot.sto S0])[as.length]? = some (.sto S0) := by
  rw [List.getElem?_append_right (Nat.le_refl _), Nat.sub_self]; rfl
theorem arg_got {i : Nat} {s : Slot} (e : (as ++ [Slot.sto S0])[i]? = some s) : as[i]? = some s ∨ (i = as.length ∧ s = .sto S0) := by
  rcases app_get e with e | ⟨hi, e⟩
  · exact .inl e
  · by_cases z : i = as.length
    · subst z; rw [Nat.sub_self] at e; cases e; exact .inr ⟨rfl, rfl⟩
    · rw [List.getElem?_eq_none (by simp; omega)] at e; cases e
end
end Dl
namespace Dl
open PySem PySem.Spec PyProof.Rows L2
variable [TabN]
def outsS (as : List Slot) (S0 : Sto) (ρ : List Slot) : List Slot := outsOf as ρ ++ [.sto (rst S0 (stoS ρ))]
def endsOfS (as : List Slot) (S0 : Sto) (Q : Slot → List Slot → Prop) : DEnds where
  nx := fun ρ => Q (.fro .non) (outsS as S0 ρ)
  rt := fun s ρ => leave ρ s fun s' ρ' => Q s' (outsS as S0 ρ')
  bk := fun _ => False
  ct := fun _ => False
section
variable {K : PySem.W.Frag} {B : Addr → Prop} {as : List Slot} {vs : List V} {H : Hp} {S0 : Sto} {Q' : Slot → List Slot → Prop} {Q : VK}
end
section
variable {P : Program} {w : World} {K : PySem.W.Frag} {mg : Str → Option Value} {base : Heap} {CX : CXT}
def PromG (P : Program) (w : World) (K : PySem.W.Frag) (mg : Str → Option Value) (base : Heap) (CX : CXT) (k : Nat) (f : Addr) (sp : Sp) : Prop :=
  ∀ (A : Around) (outer : List Env) (s : Shared) (H : Hp) (us : List Value) (vs : List V) (Q : VK) (E : XK), Room k A → A.guards = some [] → Env0 P w K mg base A outer s H → Vals vs us → sp vs H Q E → codeAny (model P w) A (.call (.ref f) ⟨us, []⟩) (CR CX outer P w H s Q E) s
theorem PromG.mono {j k : Nat} {f : Addr} {sp : Sp} (F : PromG P w K mg base CX j f sp) (h : j ≤ k) : PromG P w K mg base CX k f sp := fun A outer s H us vs Q E hr => F A outer s H us vs Q E (hr.mono h)
end
end Dl
namespace Dl
open PySem PySem.Spec PyProof.Rows L2
variable [TabN]
section
variable {P : Program} {w : World} {K : PySem.W.Frag} {mg : Str → Option Value} {base : Heap} {CX : CXT} {k : Nat} {f : Addr} {fd : FuncData}
def PromK (P : Program) (w : World) (K : PySem.W.Frag) (mg : Str → Option Value) (base : Heap) (CX : CXT) (k : Nat) (f : Addr) (n : Nat) (ks : List Str) (sp : Sp) : Prop :=
  ∀ (A : Around) (outer : List Env) (s : Shared) (H : Hp) (us ws : List Value) (vs zs : List V) (Q : VK) (E : XK), Room k A → A.guards = some [] → Env0 P w K mg base A outer s H → Vals vs us → Vals zs ws → us.length = n → ws.length = ks.length → sp (vs ++ zs) H Q E → codeAny (model P w) A (.call (.ref f) ⟨us, ks.zip ws⟩) (CR CX outer P w H s Q E) s
end
section
variable {K : PySem.W.Frag} {B : Addr → Prop} {ρ ρ2 : List Slot} {σ : L2.St} {H H2 : Hp} {C : WE} {vs : List V} {ds : List D} {Q' : Slot → List Slot → Prop} {Q : VK} {E : XK}
end
section
variable {X : Cx} {k : Nat} {e o : Expr} {es : List Expr} {kws : List Keyword} {w0 : WE} {ws us : List WE} {C : WE} {x m c : Str} {p pos apos : Pos}
structure CalleeS (P : Program) (w : World) (K : PySem.W.Frag) (mg : Str → Option Value) (base : Heap) (k : Nat) (x : Str) (n : Nat) (C : WE) : Prop where
  ex : ∃ f : Addr, PromG P w K mg base CX0 k f (spS K n C) ∧ mg x = some (.ref f) ∧ PySem.W.keepIn K (.ref f) = true
def wCallG (C : WE) (ws : List WE) : WE := fun ρ Q => wArgs ws ρ fun ss ρ1 => frzL ρ1 ss fun ds ρ2 => ds.length = ws.length ∧ hasS ρ2 ∧ C (ds.map .fro ++ [.sto (stoS ρ2)]) (backS Q ρ2)
theorem run_p {CX : CXT} {f : Addr} {sp : Sp} {E : XK} {pins : List (Addr × Obj)} {σ : L2.St} {H : Hp} {s : Shared} {Q : VK} {us : List Value} {vs : List V} (F : PromG X.prog X.w X.K X.mg X.base CX k f sp) (hr : Room k X.A) (hgu : X.A.guards = some []) (hx : Passes CX X E)
    (I : Inv X pins σ H s) (r : Vals vs us) (h : sp vs H Q E) : wpAny (model X.prog X.w) X.A (call (.ref f) us) (EP X pins σ Q) X.xe s := by
  refine wpAny_call (codeAny_mono (F X.A X.stack s H us vs Q E hr hgu I.env0 r h) fun res s' hq => ?_)
  match res, hq with
  | .ok (.ret u), hq => exact I.after hq
  | .ok .next, hq => exact hq.elim
  | .ok .brk, hq => exact hq.elim
  | .ok .cont, hq => exact hq.elim
  | .error e, hq => exact hx pins σ H s e s' I hq
theorem CalleeS.call {n : Nat} (cl : CalleeS X.prog X.w X.K X.mg X.base k x n C) (hr : Room k X.A) (hgu : X.A.guards = some []) (hg : Gl X x) (ha : MA X (e :: es) ws) (hn : ws.length = n := by rfl) (hdb : (x == ("__debug__" : Str)) = false := by decide)
    (he : starEach (e :: es) X.env = (false, eval e X.env) :: starEach es X.env := by rfl) (hpl : (backTo pos (starEach es X.env)).any (·.1) = false := by rfl) : ME X (.Call (.Name x p) (e :: es) [] pos) (wCallG C ws) := by
  obtain ⟨f, F, hm, hk⟩ := cl.ex
  refine ⟨fun pins s σ H Q I ⟨B, ρ, Q', R, hw, hq⟩ => ?_⟩
  refine wpAny_Call_Name_kw (ld_glob I hg hm (PySem.W.callWith_K (h₀ := X.base) I.ok.mod.kin hk (thn (PA.run ha pos pins s σ H _ I (args_frz R hw fun ds vs ρ2 H2 R2 r sub kp ⟨hl, hs, hC⟩ => ?_)) fun us s1 ⟨vs, H1, I1, r, q⟩ => ⟨I1.kIn, run_p (E := E0) F hr hgu (fun _ _ _ _ _ _ _ h => h.elim) I1 r q⟩) he hpl) hdb)
  rw [← hn, ← hl]
  exact spS_ok R2 hs r sub kp hC hq
structure MethS (P : Program) (w : World) (K : PySem.W.Frag) (mg : Str → Option Value) (base : Heap) (k : Nat) (c m : Str) (sp : Sp) : Prop where
  ex : ∀ C, ClsAt K c C → ∃ f : Addr, Cls K C ∧ Meth K C m f ∧ PromG P w K mg base CX0 k f sp
structure MethSK (P : Program) (w : World) (K : PySem.W.Frag) (mg : Str → Option Value) (base : Heap) (k : Nat) (c m : Str) (n : Nat) (ks : List Str) (sp : Sp) : Prop where
  ex : ∀ C, ClsAt K c C → ∃ f : Addr, Cls K C ∧ Meth K C m f ∧ PromK P w K mg base CX0 k f n ks sp
structure PropS (P : Program) (w : World) (K : PySem.W.Frag) (mg : Str → Option Value) (base : Heap) (k : Nat) (c m : Str) (Cd : WE) : Prop where
  ex : ∀ C, ClsAt K c C → ∃ (p g : Addr) (fd : FuncData) (ps : List Str), Cls K C ∧ PropOf K C m p g ∧ FnG P w K mg base CX0 k g fd ps (spS K 1 Cd) ∧ Binds K fd ps []
end
end Dl
namespace Dl
open PySem PySem.Spec PyProof.Rows L2
variable [TabN]
def FroKeep (K : PySem.W.Frag) (A : Addr → Prop) (H : Hp) (A' : Addr → Prop) (H' : Hp) : Prop := ∀ v d, RepV K A H v d → RepV K A' H' v d
theorem FroKeep.refl {K : PySem.W.Frag} {A : Addr → Prop} {H : Hp} : FroKeep K A H A H := fun _ _ h => h
theorem FroKeep.trans {K : PySem.W.Frag} {A A1 A2 : Addr → Prop} {H H1 H2 : Hp} (a : FroKeep K A H A1 H1) (b : FroKeep K A1 H1 A2 H2) : FroKeep K A H A2 H2 := fun v d h => b v d (a v d h)
theorem FroKeep.list {K : PySem.W.Frag} {A A' : Addr → Prop} {H H' : Hp} (a : FroKeep K A H A' H') : ∀ {vs : List V} {ds : List D}, RepL K A H vs ds → RepL K A' H' vs ds
  | _, _, .nil => .nil
  | _, _, .cons h r => .cons (a _ _ h) (FroKeep.list a r)
theorem FroKeep.of {K : PySem.W.Frag} {S A A' : Addr → Prop} {H H' : Hp} (k : Kp S H H') (hs : ∀ a, S a → A a) (ha : ∀ a, A' a → A a ∨ H a = none) : FroKeep K A H A' H' := fun _ _ h => h.mono k hs ha
def gsOfS (K : PySem.W.Frag) (gs : List WG) : TGs := fun vs σ H Q => ∃ (B : Addr → Prop) (H0 : Hp) (L : LT) (ρ : List Slot) (ds : List D) (k : List Slot → Prop), Rep K B ρ σ H ∧ Fr H0 L ρ σ H ∧ RepL K (Av B ρ σ) H vs ds ∧ gAllT gs ds ρ k ∧
  ∀ ρ' σ' H', Rep K B ρ' σ' H' → Fr H0 L ρ' σ' H' → FroKeep K (Av B ρ σ) H (Av B ρ' σ') H' → k ρ' → Q σ' H'
structure MGSs (X : Cx) (ts : List Expr) (gs : List WG) : Prop where
  run : PGs X ts (gsOfS X.K gs)
section
variable {X : Cx} {pos : Pos} {o e : Expr} {w w0 wk : WE} {g : WG}
end
end Dl
namespace Dl
open PySem PySem.Spec PyProof.Rows L2
variable [TabN]
section
variable {K : PySem.W.Frag} {H0 : Hp} {B B0 : Addr → Prop} {σ : L2.St} {H : Hp}
def NewS (K : PySem.W.Frag) (H0 : Hp) (B : Addr → Prop) (ρ : List Slot) (σ : L2.St) (H : Hp) (T : Sto) : Prop := (∀ a, T a ≠ none → H0 a = none ∧ B a) ∧ ∀ a o, T a = some o → OOkS K (Av B ρ σ) H a o
theorem NewS.av {ρ ρ' : List Slot} {T : Sto} (h : NewS K H0 B ρ σ H T) (s : Sub ρ' ρ) : NewS K H0 B ρ' σ H T := ⟨h.1, fun a o z => (h.2 a o z).av fun x z => z.imp (fun z => s.own x z) id⟩
end
section
variable {X : Cx} {pos : Pos}
def prs (ks : List Str) (ds : List D) : List (Key × D) := (ks.map Sum.inr).zip ds
inductive DispB (X : Cx) : List (Option Expr) → List Expr → List Str → List WE → Prop
  | nil : DispB X [] [] [] []
  | cons {k : Str} {j : Nat} {kp : Pos} {e : Expr} {w : WE} {keys : List (Option Expr)} {vals : List Expr} {ks : List Str} {ws : List WE} (he : ME X e w) (hr : DispB X keys vals ks ws) : DispB X (some (.Constant (.str k) j kp) :: keys) (e :: vals) (k :: ks) (w :: ws)
end
end Dl
namespace Dl
open PySem PySem.Spec PyProof.Rows L2
variable [TabN]
section
variable {K : PySem.W.Frag} {A A' : Addr → Prop} {B : Addr → Prop} {ρ : List Slot} {σ : L2.St} {H H0 : Hp} {L : LT} {S : Sto}
end
section
variable {X : Cx} {o e : Expr} {es : List Expr} {w0 : WE} {ws : List WE} {apos cpos : Pos} {T id : String} {name : Str} {r : V → List V → Hp → VK → Prop} {g : O → List D → (O → D → Prop) → Prop}
end
def dropD (kds : List (Key × D)) (k : Key) : List (Key × D) := kds.filter fun p => decide (p.1 ≠ k)
theorem RepK.drop {K : PySem.W.Frag} {A : Addr → Prop} {H : Hp} {k : Key} : ∀ {kvs : List (Key × V)} {kds : List (Key × D)}, RepK K A H kvs kds → RepK K A H (dropK kvs k) (dropD kds k)
  | _, _, .nil => .nil
  | _, _, .cons (k := k') (v := v) (vs := vs) (d := d) (ds := ds) h r => by
    have ih := RepK.drop (k := k) r
    unfold dropK dropD at ih ⊢
    rw [List.filter_cons, List.filter_cons]
    by_cases e : k' ≠ k
    · rw [if_pos (decide_eq_true e), if_pos (decide_eq_true e)]; exact .cons h ih
    · rw [if_neg (fun z => e (of_decide_eq_true z)), if_neg (fun z => e (of_decide_eq_true z))]; exact ih
section
variable {X : Cx} {o k e : Expr} {w0 wk w : WE} {pos tpos p : Pos} {c f : Str}
structure SpecS (P : Program) (w : World) (K : PySem.W.Frag) (mg : Str → Option Value) (base : Heap) (k : Nat) (c m : Str) (sp : Sp) : Prop where
  ex : ∀ C, ClsAt K c C → ∃ f : Addr, PySem.W.findIn K (.ref C) m = some (some (.ref f)) ∧ PySem.W.isFn K (.ref f) = true ∧ PromG P w K mg base CX0 k f sp
end
end Dl
namespace Dl
open PySem PySem.Spec PyProof.Rows L2
variable [TabN]
theorem hasS_of {S : Sto} : ∀ {l : List Slot} {j : Nat}, l[j]? = some (.sto S) → hasS l
  | [], _, e => by cases e
  | s :: r, 0, e => by cases e; trivial
  | s :: r, j + 1, e => by
    have := hasS_of (l := r) (j := j) (by simpa using e)
    cases s <;> first | exact this | trivial
section
variable {K : PySem.W.Frag} {B B' : Addr → Prop} {ρ : List Slot} {σ : L2.St} {H H' : Hp}
theorem Rep.setBoth {i j : Nat} {b : Bool} {o o' : O} {a : Addr} {S S' : Sto} (R : Rep K B ρ σ H) (hi : ρ[i]? = some (.own b o)) (ha : σ[i]? = some (some (.ref a))) (hj : ρ[j]? = some (.sto S)) (k : ∀ a, S' a ≠ none → S a ≠ none) (kp : Kp (fun x => x = a ∨ S x ≠ none) H H') (hb : ∀ x, B' x → B x ∨ (H x = none ∧ H' x ≠ none))
    (ro : OOk K (Av B' ((ρ.set i (.own b o')).set j (.sto S')) σ) H' a o') (r : ∀ a o, S' a = some o → OOkS K (Av B' ((ρ.set i (.own b o')).set j (.sto S')) σ) H' a o) :
    Rep K B' ((ρ.set i (.own b o')).set j (.sto S')) σ H' ∧ Sub ((ρ.set i (.own b o')).set j (.sto S')) ρ ∧ ∀ x, Own ((ρ.set i (.own b o')).set j (.sto S')) σ x → Own ρ σ x := by
  have nij : i ≠ j := fun z => by subst z; rw [hi] at hj; cases hj
  have hj1 : (ρ.set i (.own b o'))[j]? = some (.sto S) := by rw [List.getElem?_set_ne nij]; exact hj
  have sub1 := sub_upd (o' := o') hi
  have sub2 := sub_setS hj1 k
  have sub := sub1.trans sub2
  have ow : ∀ x, Own ((ρ.set i (.own b o')).set j (.sto S')) σ x → Own ρ σ x := fun x z => (own_upd hi x).1 (own_setS hj1 k x z)
  have oa : Own ρ σ a := .inl ⟨i, b, o, hi, ha⟩
  have hT : ∀ x, (x = a ∨ S x ≠ none) → Av B ρ σ x := fun x z => z.elim (fun z => by rw [z]; exact .inl oa) fun z => .inl (.inr ⟨j, S, hj, z⟩)
  have av : ∀ x, Av B' ((ρ.set i (.own b o')).set j (.sto S')) σ x → Av B ρ σ x ∨ H x = none := fun x z => z.elim (fun z => .inl (.inl (ow x z))) fun z => (hb x z).elim (fun z => .inl (.inr z)) fun z => .inr z.1
  refine ⟨⟨(R.shp.sub (List.length_set) sub1).sub (List.length_set) sub2, fun m s f => ?_, fun x z => (hb x z).elim (fun z => kp.trk x (R.btr x z)) fun z => z.2, fun x z w => ?_, kp.tab R.tabs⟩, sub, ow⟩
  · rcases getElem?_set_of f with ⟨rfl, rfl⟩ | ⟨n, f⟩
    · exact ⟨(R.slot _ _ hj).1, r⟩
    · rcases getElem?_set_of f with ⟨rfl, rfl⟩ | ⟨n2, f⟩
      · exact ⟨a, ha, ro⟩
      · refine (R.slot m s f).mono kp hT av (fun c p y e1 e2 z => ?_) fun T y e1 e2 _ => ?_
        · subst e1
          rcases z with z | z
          · subst z; exact n2 (R.inj i m b o c p _ hi f ha e2)
          · exact z (R.snd j m S c p y hj f e2)
        · subst e1; exact n (R.one j m S T hj f)
  · rcases hb x w with w | w
    · exact R.dis x (ow x z) w
    · exact R.own_trk (ow x z) w.1
theorem rep_lentS {A : Addr → Prop} {vs : List V} {ds : List D} {S : Sto} {a : Addr} {o : O} (ht : ∀ x, A x → H x ≠ none) (tb : TabsN H) (ha : OOk K A H a o) (hA : A a) (hSa : S a = none) (hS : ∀ a o, S a = some o → OOkS K A H a o ∧ A a) (r : RepL K A H vs ds) :
    Rep K (fun x => A x ∧ x ≠ a ∧ S x = none) (.own true o :: ds.map .fro ++ [.sto S]) ((V.ref a :: vs).map some) H ∧ (∀ x, Own (.own true o :: ds.map .fro ++ [.sto S]) ((V.ref a :: vs).map some) x ↔ (x = a ∨ S x ≠ none)) ∧ ∀ x, Av (fun x => A x ∧ x ≠ a ∧ S x = none) (.own true o :: ds.map .fro ++ [.sto S]) ((V.ref a :: vs).map some) x ↔ A x := by
  have hl := r.length
  have got : ∀ {i : Nat} {s : Slot}, (Slot.own true o :: ds.map Slot.fro ++ [Slot.sto S])[i]? = some s → (i = 0 ∧ s = .own true o) ∨ (∃ m d, i = m + 1 ∧ ds[m]? = some d ∧ s = .fro d) ∨ (i = ds.length + 1 ∧ s = .sto S) := fun {i s} e => by
    rcases arg_got (as := Slot.own true o :: ds.map Slot.fro) e with e | ⟨h1, h2⟩
    · cases i with
      | zero => cases e; exact .inl ⟨rfl, rfl⟩
      | succ m =>
        have e : (ds.map Slot.fro)[m]? = some s := by simpa using e
        rw [List.getElem?_map] at e
        cases q : ds[m]? with
        | none => rw [q] at e; cases e
        | some d => rw [q] at e; cases e; exact .inr (.inl ⟨m, d, rfl, q, rfl⟩)
    · exact .inr (.inr ⟨by rw [h1]; simp, h2⟩)
  have eS : (Slot.own true o :: ds.map Slot.fro ++ [Slot.sto S])[ds.length + 1]? = some (.sto S) := by
    have := arg_sto (as := Slot.own true o :: ds.map Slot.fro) (S0 := S)
    simpa using this
  have own : ∀ x, Own (.own true o :: ds.map .fro ++ [.sto S]) ((V.ref a :: vs).map some) x ↔ (x = a ∨ S x ≠ none) := fun x => by
    constructor
    · rintro (⟨i, b, u, e, e2⟩ | ⟨i, T, e, q⟩)
      · rcases got e with ⟨rfl, z⟩ | ⟨m, d, _, _, z⟩ | ⟨_, z⟩
        · cases e2; exact .inl rfl
        · cases z
        · cases z
      · rcases got e with ⟨rfl, z⟩ | ⟨m, d, _, _, z⟩ | ⟨_, z⟩
        · cases z
        · cases z
        · cases z; exact .inr q
    · rintro (rfl | z)
      · exact .inl ⟨0, true, o, rfl, rfl⟩
      · exact .inr ⟨_, S, eS, z⟩
  have av : ∀ x, Av (fun x => A x ∧ x ≠ a ∧ S x = none) (.own true o :: ds.map .fro ++ [.sto S]) ((V.ref a :: vs).map some) x ↔ A x := fun x => by
    constructor
    · rintro (z | z)
      · rcases (own x).1 z with rfl | this
        · exact hA
        · cases e : S x with
          | none => exact absurd e this
          | some o => exact (hS x o e).2
      · exact z.1
    · intro z
      by_cases hx : x = a
      · exact .inl ((own x).2 (.inl hx))
      · cases e : S x with
        | none => exact .inr ⟨z, hx, e⟩
        | some o => exact .inl ((own x).2 (.inr (by rw [e]; exact nofun)))
  refine ⟨⟨⟨by simp [hl], fun i s e => ?_, fun i j b o1 b' o' y e1 e2 _ _ => ?_, fun i j T b o1 y e1 e2 e3 => ?_, fun i j T U e1 e2 => ?_⟩, fun i s e => ?_, fun x z => ht x z.1, fun x z w => (own x).1 z |>.elim (fun z => w.2.1 z) fun z => z w.2.2, tb⟩, own, av⟩
  · rcases got e with ⟨rfl, z⟩ | ⟨m, d, hm, q, z⟩ | ⟨_, z⟩
    · exact .inl (by simp)
    · have := (List.getElem?_eq_some_iff.mp q).1
      exact .inl (by simp [hl]; omega)
    · exact .inr ⟨S, z⟩
  · rcases got e1 with ⟨h1, z⟩ | ⟨m, d, _, _, z⟩ | ⟨_, z⟩
    · rcases got e2 with ⟨h2, z⟩ | ⟨m, d, _, _, z⟩ | ⟨_, z⟩
      · rw [h1, h2]
      · cases z
      · cases z
    · cases z
    · cases z
  · rcases got e1 with ⟨h1, z⟩ | ⟨m, d, _, _, z⟩ | ⟨_, z⟩
    · cases z
    · cases z
    · cases z
      rcases got e2 with ⟨rfl, z⟩ | ⟨m, d, _, _, z⟩ | ⟨_, z⟩
      · cases e3; exact hSa
      · cases z
      · cases z
  · rcases got e1 with ⟨h1, z⟩ | ⟨m, d, _, _, z⟩ | ⟨h1, z⟩
    · cases z
    · cases z
    · rcases got e2 with ⟨h2, z⟩ | ⟨m, d, _, _, z⟩ | ⟨h2, z⟩
      · cases z
      · cases z
      · rw [h1, h2]
  · rcases got e with ⟨rfl, z⟩ | ⟨m, d, hm, q, z⟩ | ⟨hi, z⟩
    · subst z; exact ⟨a, rfl, ha.av fun x z => (av x).1 z⟩
    · subst z hm
      obtain ⟨v, e1, rv⟩ := r.get q
      exact ⟨v, by simp [e1], rv.av fun x z => (av x).1 z⟩
    · subst z hi
      exact ⟨List.getElem?_eq_none (by simp [hl]), fun a o z => (hS a o z).1.av fun x z => (av x).1 z⟩
def backSP (Q : Slot → List Slot → Prop) (ρ : List Slot) (i : Nat) (b : Bool) : Slot → List Slot → Prop := fun r outs => match outs with
  | .own true o' :: _ => (match r with
    | .fro d => Q (.fro d) (putS (ρ.set i (.own b o')) (stoS outs))
    | .own _ u => Q (.own false u) (putS (ρ.set i (.own b o')) (stoS outs))
    | .bun d T => Q (.bun d T) (putS (ρ.set i (.own b o')) (stoS outs))
    | _ => False)
  | _ => False
theorem spS_okP {C : WE} {ρ2 : List Slot} {H2 : Hp} {vs : List V} {ds : List D} {i : Nat} {b : Bool} {o : O} {a : Addr} {Q' : Slot → List Slot → Prop} {Q : VK} {E : XK} (R2 : Rep K B ρ2 σ H2) (hs : hasS ρ2) (hi : ρ2[i]? = some (.own b o)) (ha : σ[i]? = some (some (.ref a))) (r : RepL K (Av B ρ2 σ) H2 vs ds) (sub : Sub ρ2 ρ) (kp : Kp (Own ρ σ) H H2)
    (hC : C (.own true o :: ds.map .fro ++ [.sto (stoS ρ2)]) (backSP Q' ρ2 i b)) (hq : ∀ s v ρ' H', Post K B ρ' σ H H' s v → Sub ρ' ρ → Kp (Own ρ σ) H H' → Q' s ρ' → Q v H') : spS K (ds.length + 1) C (.ref a :: vs) H2 Q E := by
  obtain ⟨j, ej, ep, eg⟩ := hasS_at hs
  have sl := R2.slot j _ ej
  have nij : i ≠ j := fun z => by subst z; rw [hi] at ej; cases ej
  have hhi := (List.getElem?_eq_some_iff.mp hi).1
  have ow : ∀ x, stoS ρ2 x ≠ none → Own ρ2 σ x := fun x z => .inr ⟨j, _, ej, z⟩
  have oa : Own ρ2 σ a := .inl ⟨i, b, o, hi, ha⟩
  have hSa : stoS ρ2 a = none := R2.snd j i _ b o a ej hi ha
  have qa : OOk K (Av B ρ2 σ) H2 a o := by
    obtain ⟨a', e, q⟩ := R2.slot i _ hi
    rw [ha] at e; cases e; exact q
  obtain ⟨Rc, own, av⟩ := rep_lentS (vs := vs) (ds := ds) (S := stoS ρ2) (fun x z => R2.av_trk z) R2.tabs qa (.inl oa) hSa (fun a o z => ⟨sl.2 a o z, .inl (ow a (by rw [z]; exact nofun))⟩) r
  have eSa : (Slot.own true o :: ds.map Slot.fro ++ [Slot.sto (stoS ρ2)])[ds.length + 1]? = some (.sto (stoS ρ2)) := by
    have := arg_sto (as := Slot.own true o :: ds.map Slot.fro) (S0 := stoS ρ2)
    simpa using this
  refine ⟨by rw [List.length_cons, r.length], _, .own true o :: ds.map .fro, stoS ρ2, _, Rc, by simp [r.length], hC, fun s v outs H' post so k3 h => ?_⟩
  have kT : Kp (fun x => x = a ∨ stoS ρ2 x ≠ none) H2 H' := k3.mono fun x z => (own x).1 z
  obtain ⟨S', eS'⟩ := so.stl (ds.length + 1) (stoS ρ2) eSa
  have Ro := post.rep
  have hst : stoS outs = S' := stoS_of eS' Ro.one
  have kS : ∀ a, S' a ≠ none → stoS ρ2 a ≠ none := fun a z => by
    obtain ⟨T, eT, hk⟩ := so.sto (ds.length + 1) S' eS'
    rw [eSa] at eT
    cases eT; exact hk a z
  have k' : Kp (Own ρ σ) H H' := kp.trans kT fun x z => sub.own x (z.elim (fun z => by rw [z]; exact oa) (ow x))
  match outs, so, h, post, Ro, eS', hst with
  | .own true o' :: outs, so, h, post, Ro, eS', hst =>
    have hjs : hasS (ρ2.set i (.own b o')) := by
      have : (ρ2.set i (.own b o'))[j]? = some (.sto (stoS ρ2)) := by rw [List.getElem?_set_ne nij]; exact ej
      exact hasS_of this
    have ejs : (ρ2.set i (.own b o'))[j]? = some (.sto (stoS ρ2)) := by rw [List.getElem?_set_ne nij]; exact ej
    have eput : ∀ T, putS (ρ2.set i (.own b o')) T = (ρ2.set i (.own b o')).set j (.sto T) := fun T => by
      obtain ⟨m, em, ep2, _⟩ := hasS_at hjs
      have sh := R2.shp.sub (List.length_set) (sub_upd (o' := o') hi)
      have := sh.one m j _ _ em ejs
      subst this; exact ep2 T
    have rvO : ∀ {Bx : Addr → Prop}, Rep K Bx (.own true o' :: outs) ((V.ref a :: vs).map some) H' → OOk K (Av Bx (.own true o' :: outs) ((V.ref a :: vs).map some)) H' a o' := fun {Bx} Rx => by
      obtain ⟨a1, e1, q1⟩ := Rx.slot 0 _ rfl
      cases e1; exact q1
    have inc : ∀ {Bx : Addr → Prop} {x : Addr}, Av Bx ((ρ2.set i (.own b o')).set j (.sto S')) σ x → Av (fun x => (Av B ρ2 σ x ∧ x ≠ a ∧ stoS ρ2 x = none) ∨ (Bx x ∧ ¬ B x)) (.own true o' :: outs) ((V.ref a :: vs).map some) x := fun {Bx x} z => by
      by_cases hx : x = a
      · subst hx; exact .inl (.inl ⟨0, true, o', rfl, rfl⟩)
      · rcases z with (⟨m, b1, o1, e1, e2⟩ | ⟨m, T, e1, e2⟩) | z
        · rcases getElem?_set_of e1 with ⟨_, z⟩ | ⟨_, z⟩
          · cases z
          · rcases getElem?_set_of z with ⟨rfl, z⟩ | ⟨_, z⟩
            · rw [ha] at e2; cases e2; exact absurd rfl hx
            · exact .inr (.inl ⟨.inl (.inl ⟨m, b1, o1, z, e2⟩), hx, R2.snd j m _ b1 o1 x ej z e2⟩)
        · rcases getElem?_set_of e1 with ⟨rfl, z⟩ | ⟨n, z⟩
          · cases z; exact .inl (.inr ⟨ds.length + 1, _, eS', e2⟩)
          · rcases getElem?_set_of z with ⟨_, z2⟩ | ⟨_, z2⟩
            · cases z2
            · exact absurd (R2.one j m _ T ej z2) n
        · by_cases hB : B x
          · refine .inr (.inl ⟨.inr hB, hx, ?_⟩)
            cases e : stoS ρ2 x with
            | none => rfl
            | some o => exact absurd hB (R2.dis x (ow x (by rw [e]; exact nofun)))
          · exact .inr (.inr ⟨z, hB⟩)
    have fin : ∀ (Bx : Addr → Prop) (hb : ∀ y, Bx y → B y ∨ (H2 y = none ∧ H' y ≠ none)), Rep K (fun x => (Av B ρ2 σ x ∧ x ≠ a ∧ stoS ρ2 x = none) ∨ (Bx x ∧ ¬ B x)) (.own true o' :: outs) ((V.ref a :: vs).map some) H' → Rep K Bx (putS (ρ2.set i (.own b o')) S') σ H' ∧ Sub (putS (ρ2.set i (.own b o')) S') ρ2 := fun Bx hb Rx => by
      rw [eput S']
      obtain ⟨R5, s5, _⟩ := R2.setBoth (S' := S') (o' := o') hi ha ej kS kT hb ((rvO Rx).av fun x z => inc z) fun a o z => ((Rx.slot _ _ eS').2 a o z).av fun x z => inc z
      exact ⟨R5, s5⟩
    have sameF : (fun x => (Av B ρ2 σ x ∧ x ≠ a ∧ stoS ρ2 x = none) ∨ (B x ∧ ¬ B x)) = fun x => Av B ρ2 σ x ∧ x ≠ a ∧ stoS ρ2 x = none := funext fun x => propext ⟨fun z => z.elim id fun z => absurd z.1 z.2, .inl⟩
    match s, post, h with
    | .fro d, post, h =>
      have h : Q' (.fro d) (putS (ρ2.set i (.own b o')) (stoS (.own true o' :: outs))) := h
      rw [hst] at h
      obtain ⟨R5, s5⟩ := fin B (fun y z => .inl z) (by rw [sameF]; exact post.1)
      refine hq _ _ _ _ (postF R5 (post.2.av fun x z => ?_)) (sub.trans s5) k' h
      rw [eput S'] at z
      have := inc (Bx := B) z
      rw [sameF] at this; exact this
    | .own b1 u, ⟨a2, hv, n, nb, R4, q4⟩, h =>
      subst hv
      have h : Q' (.own false u) (putS (ρ2.set i (.own b o')) (stoS (.own true o' :: outs))) := h
      rw [hst] at h
      have nBa : ¬ B a2 := fun z => R2.btr a2 z n
      have eF : (fun x => (Av B ρ2 σ x ∧ x ≠ a ∧ stoS ρ2 x = none) ∨ x = a2) = fun x => (Av B ρ2 σ x ∧ x ≠ a ∧ stoS ρ2 x = none) ∨ ((B x ∨ x = a2) ∧ ¬ B x) := funext fun x => propext ⟨fun z => z.imp id fun z => by subst z; exact ⟨.inr rfl, nBa⟩, fun z => z.imp id fun z => z.1.elim (fun y => absurd y z.2) id⟩
      rw [eF] at R4 q4
      have hb2 : ∀ y, (B y ∨ y = a2) → B y ∨ (H2 y = none ∧ H' y ≠ none) := fun y z => z.imp id fun z => by rw [z]; exact ⟨n, q4.trk⟩
      obtain ⟨R5, s5⟩ := fin (fun x => B x ∨ x = a2) hb2 R4
      refine hq _ _ _ _ (postO (b := false) (kp.back n) nBa R5 (q4.av fun x z => ?_)) (sub.trans s5) k' h
      rw [eput S'] at z
      exact inc z
    | .bun d T, ⟨hn, R4, rv, ro⟩, h =>
      have h : Q' (.bun d T) (putS (ρ2.set i (.own b o')) (stoS (.own true o' :: outs))) := h
      rw [hst] at h
      have nB : ∀ x, T x ≠ none → ¬ B x := fun x z y => R2.btr x y (hn x z).1
      have eF : (fun x => (Av B ρ2 σ x ∧ x ≠ a ∧ stoS ρ2 x = none) ∨ T x ≠ none) = fun x => (Av B ρ2 σ x ∧ x ≠ a ∧ stoS ρ2 x = none) ∨ ((B x ∨ T x ≠ none) ∧ ¬ B x) := funext fun x => propext ⟨fun z => z.imp id fun z => ⟨.inr z, nB x z⟩, fun z => z.imp id fun z => z.1.elim (fun y => absurd y z.2) id⟩
      rw [eF] at R4 rv ro
      have hb2 : ∀ y, (B y ∨ T y ≠ none) → B y ∨ (H2 y = none ∧ H' y ≠ none) := fun y z => z.imp id fun z => ⟨(hn y z).1, by
        cases e : T y with
        | none => exact absurd e z
        | some o => exact (ro y o e).trk⟩
      obtain ⟨R5, s5⟩ := fin (fun x => B x ∨ T x ≠ none) hb2 R4
      have inc2 : ∀ x, Av (fun x => B x ∨ T x ≠ none) (putS (ρ2.set i (.own b o')) S') σ x → _ := fun x z => by
        rw [eput S'] at z
        exact inc (Bx := fun x => B x ∨ T x ≠ none) z
      refine hq (.bun d T) _ _ _ ⟨fun x z => ⟨kp.back (hn x z).1, nB x z⟩, R5, rv.av inc2, fun a o z => (ro a o z).av inc2⟩ (sub.trans s5) k' h
end
def wCallGP (C : WE) (i : Nat) (ws : List WE) : WE := fun ρ Q => (∃ b o, ρ[i]? = some (Slot.own b o)) ∧ wArgs ws ρ fun ss ρ1 => frzL ρ1 ss fun ds ρ2 => ds.length = ws.length ∧ hasS ρ2 ∧ match ρ2[i]? with
  | some (.own b o) => C (.own true o :: ds.map .fro ++ [.sto (stoS ρ2)]) (backSP Q ρ2 i b)
  | _ => False
section
variable {X : Cx} {k n i : Nat} {e : Expr} {es : List Expr} {w0 : WE} {ws : List WE} {C : WE} {x c : Str} {p pos : Pos}
theorem CalleeS.callP (cl : CalleeS X.prog X.w X.K X.mg X.base k x n C) (hr : Room k X.A) (hgu : X.A.guards = some []) (hg : Gl X x) (h0 : PE X e (tVar i)) (ha : MA X es ws) (hn : ws.length + 1 = n := by rfl) (hdb : (x == ("__debug__" : Str)) = false := by decide)
    (he : starEach (e :: es) X.env = (false, eval e X.env) :: starEach es X.env := by rfl) (hpl : (backTo pos (starEach es X.env)).any (·.1) = false := by rfl) : ME X (.Call (.Name x p) (e :: es) [] pos) (wCallGP C i ws) := by
  obtain ⟨f, F, hm, hk⟩ := cl.ex
  refine ⟨fun pins s σ H Q I ⟨B, ρ, Q', R, hw, hq⟩ => ?_⟩
  obtain ⟨⟨b0, o0, hi0⟩, hw⟩ := hw
  obtain ⟨a, ea, _⟩ := R.slot i _ hi0
  refine wpAny_Call_Name_kw (ld_glob I hg hm (PySem.W.callWith_K (h₀ := X.base) I.ok.mod.kin hk (thn ((pa_cons h0 ha he).run pos pins s σ H (fun vs H1 => spS X.K n C vs H1 Q E0) I ⟨.ref a, ea, args_frz R hw fun ds vs ρ2 H2 R2 r sub kp ⟨hl, hs, hC⟩ => ?_⟩) fun us s1 ⟨vs, H1, I1, r, q⟩ => ⟨I1.kIn, run_p (E := E0) F hr hgu (fun _ _ _ _ _ _ _ h => h.elim) I1 r q⟩) he hpl) hdb)
  cases e2 : ρ2[i]? with
  | none => rw [e2] at hC; exact hC.elim
  | some t =>
    rw [e2] at hC
    match t, e2, hC with
    | .own b o, e2, hC =>
      rw [← hn, ← hl]
      exact spS_okP R2 hs e2 ea r sub kp hC hq
end
end Dl
namespace Dl
open PySem PySem.Spec PyProof.Rows L2
variable [TabN]
section
variable {X : Cx} {e : Expr} {es : List Expr} {x : Str} {p pos : Pos} {ws : List WE}
structure MakerG (P : Program) (w : World) (K : PySem.W.Frag) (mg : Str → Option Value) (base : Heap) (k : Nat) (c : Str) (sp : Sp) : Prop where
  ex : ∃ (C f : Addr), mg c = some (.ref C) ∧ ClsAt K c C ∧ Mk K C f ∧ PromG P w K mg base CX0 k f sp
end
section
variable {K : PySem.W.Frag} {B : Addr → Prop} {ρ ρ2 : List Slot} {σ : L2.St} {H H2 : Hp} {C : WE} {vs : List V} {ds : List D} {Q' : Slot → List Slot → Prop} {Q : VK} {E : XK} {ws : List WE} {c : Str} {Cd : WE}
end
section
variable {X : Cx} {e : Expr} {es : List Expr} {x : Str} {p pos : Pos} {ws : List WE}
end
end Dl
namespace Dl
open PySem PySem.Spec PyProof.Rows L2
variable [TabN]
section
variable {K : PySem.W.Frag} {B : Addr → Prop} {ρ : List Slot} {σ : L2.St} {H H0 H1 : Hp} {L : LT} {a : Addr} {o o' : O} {kds : List (Key × D)} {kvs : List (Key × V)} {ob : Obj}
end
end Dl
namespace Dl
open PySem PySem.Spec PyProof.Rows L2
variable [TabN]
section
variable {X : Cx}
end
end Dl
namespace Dl
open PySem PySem.Spec PyProof.Rows L2
variable [TabN]
section
variable {K : PySem.W.Frag} {σ : L2.St} {H : Hp} {w : WE} {ws : List WE} {Q : List V → Hp → Prop}
end
section
variable {X : Cx} {pos : Pos}
end
end Dl
namespace Dl
open PySem PySem.Spec PyProof.Rows L2
variable [TabN]
end Dl
namespace Dl
open PySem L2 PyProof.Rows
variable [TabN]
section
variable {P : Program} {w : World} {A : Around} {E : Value → Shared → Prop} {s : Shared}
end
section
variable {X : Cx} {e : Expr} {w1 : WE}
end
end Dl
namespace Dl
open PySem PySem.Spec PyProof.Rows L2
variable [TabN]
section
variable {K : PySem.W.Frag} {B : Addr → Prop} {ρ : List Slot} {σ : L2.St} {H : Hp} {p : Addr} {kvs : List (Key × V)}
end
section
variable {X : Cx} {px apos cpos tpos pos fpos : Pos} {x c f : Str} {i : Nat} {js : List Nat} {g : WG} {w : WS}
end
section
variable {X : Cx} {kx vx ta : Expr} {tb ib : Expr} {ifs : List Expr} {sc : Scope} {own : List (Str × Nat)} {px apos cpos tpos ps fpos : Pos} {x c f : Str} {i : Nat} {js js1 vs1 : List Nat} {wi1 : WI} {g g1 : WG} {t : WT} {wk wv : WE} {elts : List Expr} {kk : Nat}
end
end Dl
namespace Dl
open PySem PySem.Spec PyProof.Rows L2
variable [TabN]
section
variable {X : Cx} {e : Expr} {st : Stmt} {w0 : WE} {w : WS}
section
variable {tg : Expr} {apos cpos tpos : Pos} {elts : List Expr} {kk : Nat}
end
end
end Dl
namespace Dl
open PySem PySem.Spec PyProof.Rows L2
variable [TabN]
section
variable {K : PySem.W.Frag} {A A' : Addr → Prop} {H : Hp}
end
section
variable {K : PySem.W.Frag} {C : WE} {B : Addr → Prop} {ρ : List Slot} {σ : L2.St} {H : Hp}
end
section
variable {X : Cx} {k : Nat} {x : Str} {ps : List Str} {C : WE} {p pos : Pos} {e : Expr} {es : List Expr} {ws : List WE}
end
end Dl
namespace Dl
open PySem PySem.Spec PyProof.Rows L2
variable [TabN]
end Dl
namespace Dl
open PySem PySem.Spec PyProof.Rows L2
variable [TabN]
section
variable {P : Program} {w : World} {K : PySem.W.Frag} {mg : Str → Option Value} {base : Heap} {CX : CXT} {k : Nat} {f : Addr} {fd : FuncData}
end
end Dl
namespace Dl
open PySem PySem.Spec PyProof.Rows L2
variable [TabN]
end Dl
namespace Dl
open PySem PySem.Spec PyProof.Rows L2
variable [TabN]
end Dl
namespace Dl
open PySem PySem.Spec PyProof.Rows L2
structure FunP (K : PySem.W.Frag) (T : Addr) (x qual : Str) (st : Stmt) (f : Addr) (fd : FuncData) : Prop where
  ex : ∃ (oc : Value) (od : Option Addr) (kV doc pm : Value) (an : Option Addr) (cdv ct : Value) (osl : Array (Option Value)),
    fd = PySem.W.fnOf x qual (defArgs st) (defBody st) (defScope st) (.ref T) kV doc pm an cdv ct ∧ K.lookup f = some ⟨oc, od, .func fd, osl⟩ ∧ PySem.W.codeIn K cdv qual = true
  kp : PySem.W.keepIn K (.ref f) = true
section
variable [TabN]
variable {CX : CXT} {P : Program} {w : World} {K : PySem.W.Frag} {mg : Str → Option Value} {base : Heap}
end
namespace Hd
open He
end Hd
end Dl
namespace Dl
open PySem PySem.Spec PyProof.Rows L2
variable [TabN]
end Dl
namespace Dl
open PySem PySem.Spec PyProof.Rows L2
variable [TabN]
end Dl
namespace Dl
open PySem PySem.Spec PyProof.Rows L2
variable [TabN]
end Dl
namespace Dl
open PySem PySem.Spec PyProof.Rows L2
variable [TabN]
section
variable {X : Cx} {a b c e : Expr} {w : WE} {pos : Pos}
variable {t t1 t2 : WT} {rest : List Expr} {w1 w2 : WS}
end
end Dl
namespace Dl
open PySem PySem.Spec PyProof.Rows L2
variable [TabN]
section
variable {K : PySem.W.Frag} {B : Addr → Prop} {ρ : List Slot} {σ : L2.St} {H : Hp}
end
end Dl
namespace Dl
open PySem PySem.Spec PyProof.Rows L2
variable [TabN]
section
variable {P : Program} {w : World} {K : PySem.W.Frag} {mg : Str → Option Value} {base : Heap} {CX : CXT}
end
section
variable {X : Cx} {e : Expr} {es : List Expr} {x : Str} {p pos : Pos} {ws : List WE}
end
section
variable {K : PySem.W.Frag} {A A' : Addr → Prop} {H : Hp}
end
section
variable {K : PySem.W.Frag} {B : Addr → Prop} {ρ ρ2 : List Slot} {σ : L2.St} {H H2 : Hp} {Cd : WE} {Q' : Slot → List Slot → Prop} {Q : VK} {E : XK} {ws : List WE} {c : Str}
end
section
variable {X : Cx} {e : Expr} {es : List Expr} {x : Str} {p pos : Pos} {ws : List WE}
end
end Dl
namespace Dl
open PySem PySem.Spec PyProof.Rows L2
variable [TabN]
section
variable {X : Cx} {elt tg iter tg1 iter1 kx vx : Expr} {ifs ifs1 : List Expr} {scope sc : Scope} {own : List (Str × Nat)} {pos spos ps py : Pos}
end
end Dl
namespace Dl
open PySem PySem.Spec PyProof.Rows L2
variable [TabN]
end Dl
namespace Dl
open PySem PySem.Spec PyProof.Rows L2
variable [TabN]
section
variable {X : Cx} {o e : Expr} {w1 w2 : WE} {apos cpos : Pos}
end
end Dl
namespace Dl
open PySem PySem.Spec PyProof.Rows L2
variable [TabN]
section
variable {K : PySem.W.Frag} {B : Addr → Prop} {ρ ρ2 ρc : List Slot} {σ σc : L2.St} {H H2 : Hp} {m : Nat} {Q' : Slot → List Slot → Prop} {Q : VK}
theorem back_env (R2 : Rep K B ρ2 σ H2) (hs : hasS ρ2) (em : ρc[m]? = some (.sto (stoS ρ2))) (own : ∀ x, Own ρc σc x ↔ stoS ρ2 x ≠ none)
    {outs : List Slot} {H' : Hp} {Bo : Addr → Prop} (Ro : Rep K Bo outs σc H') (so : Sub outs ρc) (k3 : Kp (Own ρc σc) H2 H') :
    Kp (fun x => Own ρ2 σ x) H2 H' ∧ (∀ {Bx : Addr → Prop} {x : Addr}, Av Bx (putS ρ2 (stoS outs)) σ x → Av (fun x => (Av B ρ2 σ x ∧ stoS ρ2 x = none) ∨ (Bx x ∧ ¬ B x)) outs σc x) ∧
      ∀ (Bx : Addr → Prop) (hb : ∀ y, Bx y → B y ∨ (H2 y = none ∧ H' y ≠ none)), Rep K (fun x => (Av B ρ2 σ x ∧ stoS ρ2 x = none) ∨ (Bx x ∧ ¬ B x)) outs σc H' → Rep K Bx (putS ρ2 (stoS outs)) σ H' ∧ Sub (putS ρ2 (stoS outs)) ρ2 := by
  obtain ⟨i, ei, ep, eg⟩ := hasS_at hs
  have sl := R2.slot i _ ei
  have ow : ∀ x, stoS ρ2 x ≠ none → Own ρ2 σ x := fun x z => .inr ⟨i, _, ei, z⟩
  have kT : Kp (fun x => stoS ρ2 x ≠ none) H2 H' := k3.mono fun x z => (own x).1 z
  obtain ⟨S', eS'⟩ := so.stl m (stoS ρ2) em
  have hst : stoS outs = S' := stoS_of eS' Ro.one
  have kS : ∀ a, S' a ≠ none → stoS ρ2 a ≠ none := fun a z => by
    obtain ⟨T, eT, hk⟩ := so.sto m S' eS'
    rw [em] at eT
    cases eT; exact hk a z
  have noT : ∀ (x : Addr) (j : Nat) (b : Bool) (o : O), ρ2[j]? = some (.own b o) → σ[j]? = some (some (.ref x)) → ¬ stoS ρ2 x ≠ none := fun x j b o e1 e2 z => z (R2.snd i j _ b o x ei e1 e2)
  rw [hst]
  have inc : ∀ {Bx : Addr → Prop} {x : Addr}, Av Bx (ρ2.set i (.sto S')) σ x → Av (fun x => (Av B ρ2 σ x ∧ stoS ρ2 x = none) ∨ (Bx x ∧ ¬ B x)) outs σc x := fun {Bx x} z => by
    rcases z with (⟨j, b, o, e1, e2⟩ | ⟨j, T, e1, e2⟩) | z
    · rcases getElem?_set_of e1 with ⟨_, z⟩ | ⟨_, z⟩
      · cases z
      · exact .inr (.inl ⟨.inl (.inl ⟨j, b, o, z, e2⟩), R2.snd i j _ b o x ei z e2⟩)
    · rcases getElem?_set_of e1 with ⟨rfl, z⟩ | ⟨n, z⟩
      · cases z; exact .inl (.inr ⟨m, _, eS', e2⟩)
      · exact absurd (R2.one i j _ T ei z) n
    · by_cases hB : B x
      · refine .inr (.inl ⟨.inr hB, ?_⟩)
        cases e : stoS ρ2 x with
        | none => rfl
        | some o => exact absurd hB (R2.dis x (ow x (by rw [e]; exact nofun)))
      · exact .inr (.inr ⟨z, hB⟩)
  refine ⟨kT.mono ow, fun {Bx x} z => ?_, fun Bx hb Rx => ?_⟩
  · rw [ep S'] at z; exact inc z
  · rw [ep S']
    refine R2.setSto (S := stoS ρ2) ei kS kT (fun x z => .inl (ow x z)) noT hb fun a o z => ?_
    exact ((Rx.slot _ _ eS').2 a o z).av fun x z => inc z
theorem back_ok (R2 : Rep K B ρ2 σ H2) (hs : hasS ρ2) (sub : Sub ρ2 ρ) (kp : Kp (Own ρ σ) H H2) (em : ρc[m]? = some (.sto (stoS ρ2))) (own : ∀ x, Own ρc σc x ↔ stoS ρ2 x ≠ none)
    (hq : ∀ s v ρ' H', Post K B ρ' σ H H' s v → Sub ρ' ρ → Kp (Own ρ σ) H H' → Q' s ρ' → Q v H')
    {s : Slot} {v : V} {outs : List Slot} {H' : Hp} (post : Post K (fun x => Av B ρ2 σ x ∧ stoS ρ2 x = none) outs σc H2 H' s v) (so : Sub outs ρc) (k3 : Kp (Own ρc σc) H2 H') (h : backS Q' ρ2 s outs) : Q v H' := by
  obtain ⟨kO, inc, fin⟩ := back_env R2 hs em own post.rep so k3
  have k' : Kp (Own ρ σ) H H' := kp.trans kO fun x z => sub.own x z
  have sameF : (fun x => (Av B ρ2 σ x ∧ stoS ρ2 x = none) ∨ (B x ∧ ¬ B x)) = fun x => Av B ρ2 σ x ∧ stoS ρ2 x = none := funext fun x => propext ⟨fun z => z.elim id fun z => absurd z.1 z.2, .inl⟩
  match s, post, h with
  | .fro d, post, h =>
    have h : Q' (.fro d) (putS ρ2 (stoS outs)) := h
    obtain ⟨R5, s5⟩ := fin B (fun y z => .inl z) (by rw [sameF]; exact post.1)
    refine hq _ _ _ _ (postF R5 (post.2.av fun x z => ?_)) (sub.trans s5) k' h
    have := inc z
    rw [sameF] at this; exact this
  | .own b o, ⟨a, hv, n, nb, R4, q4⟩, h =>
    subst hv
    have h : Q' (.own false o) (putS ρ2 (stoS outs)) := h
    have nBa : ¬ B a := fun z => R2.btr a z n
    have eF : (fun x => (Av B ρ2 σ x ∧ stoS ρ2 x = none) ∨ x = a) = fun x => (Av B ρ2 σ x ∧ stoS ρ2 x = none) ∨ ((B x ∨ x = a) ∧ ¬ B x) := funext fun x => propext ⟨fun z => z.imp id fun z => by subst z; exact ⟨.inr rfl, nBa⟩, fun z => z.imp id fun z => z.1.elim (fun y => absurd y z.2) id⟩
    rw [eF] at R4 q4
    have hb2 : ∀ y, (B y ∨ y = a) → B y ∨ (H2 y = none ∧ H' y ≠ none) := fun y z => z.imp id fun z => by rw [z]; exact ⟨n, q4.trk⟩
    obtain ⟨R5, s5⟩ := fin (fun x => B x ∨ x = a) hb2 R4
    exact hq _ _ _ _ (postO (b := false) (kp.back n) nBa R5 (q4.av fun x z => inc z)) (sub.trans s5) k' h
  | .bun d T, ⟨hn, R4, rv, ro⟩, h =>
    have h : Q' (.bun d T) (putS ρ2 (stoS outs)) := h
    have nB : ∀ x, T x ≠ none → ¬ B x := fun x z y => R2.btr x y (hn x z).1
    have eF : (fun x => (Av B ρ2 σ x ∧ stoS ρ2 x = none) ∨ T x ≠ none) = fun x => (Av B ρ2 σ x ∧ stoS ρ2 x = none) ∨ ((B x ∨ T x ≠ none) ∧ ¬ B x) := funext fun x => propext ⟨fun z => z.imp id fun z => ⟨.inr z, nB x z⟩, fun z => z.imp id fun z => z.1.elim (fun y => absurd y z.2) id⟩
    rw [eF] at R4 rv ro
    have hb2 : ∀ y, (B y ∨ T y ≠ none) → B y ∨ (H2 y = none ∧ H' y ≠ none) := fun y z => z.imp id fun z => ⟨(hn y z).1, by
      cases e : T y with
      | none => exact absurd e z
      | some o => exact (ro y o e).trk⟩
    obtain ⟨R5, s5⟩ := fin (fun x => B x ∨ T x ≠ none) hb2 R4
    exact hq (.bun d T) _ _ _ ⟨fun x z => ⟨kp.back (hn x z).1, nB x z⟩, R5, rv.av fun x z => inc z, fun a o z => (ro a o z).av fun x z => inc z⟩ (sub.trans s5) k' h
theorem back_ex {W : WX} {ex : XS} (R2 : Rep K B ρ2 σ H2) (hs : hasS ρ2) (sub : Sub ρ2 ρ) (kp : Kp (Own ρ σ) H H2) (em : ρc[m]? = some (.sto (stoS ρ2))) (own : ∀ x, Own ρc σc x ↔ stoS ρ2 x ≠ none)
    (hx : ∀ c f v cls d ρ' H', Rep K B ρ' σ H' → Sub ρ' ρ → Kp (Own ρ σ) H H' → ExcAt K (Av B ρ' σ) H' cls d c f v → ex c f v ρ' → W cls d σ H')
    {c f : Str} {v : D} {cls : Value} {d : Option Addr} {outs : List Slot} {H' : Hp} (R' : Rep K (fun x => Av B ρ2 σ x ∧ stoS ρ2 x = none) outs σc H') (so : Sub outs ρc) (k3 : Kp (Own ρc σc) H2 H') (ea : ExcAt K (Av (fun x => Av B ρ2 σ x ∧ stoS ρ2 x = none) outs σc) H' cls d c f v)
    (h : ex c f v (putS ρ2 (stoS outs))) : W cls d σ H' := by
  obtain ⟨kO, inc, fin⟩ := back_env R2 hs em own R' so k3
  have sameF : (fun x => (Av B ρ2 σ x ∧ stoS ρ2 x = none) ∨ (B x ∧ ¬ B x)) = fun x => Av B ρ2 σ x ∧ stoS ρ2 x = none := funext fun x => propext ⟨fun z => z.elim id fun z => absurd z.1 z.2, .inl⟩
  obtain ⟨R5, s5⟩ := fin B (fun y z => .inl z) (by rw [sameF]; exact R')
  refine hx _ _ _ _ _ _ _ R5 (sub.trans s5) (kp.trans kO fun x z => sub.own x z) (ea.av fun x z => ?_) h
  have := inc z
  rw [sameF] at this; exact this
end
def spSX (K : PySem.W.Frag) (n : Nat) (C : WEX) : Sp := fun vs H Q E => vs.length = n ∧ ∃ (B : Addr → Prop) (as : List Slot) (S : Sto) (Q' : Slot → List Slot → Prop) (ex : XS), Rep K B (as ++ [.sto S]) (vs.map some) H ∧ as.length = vs.length ∧ C ex (as ++ [.sto S]) Q' ∧
  (∀ s v ρ' H', Post K B ρ' (vs.map some) H H' s v → Sub ρ' (as ++ [.sto S]) → Kp (Own (as ++ [.sto S]) (vs.map some)) H H' → Q' s ρ' → Q v H') ∧
  (∀ c f v cls d ρ' H', Rep K B ρ' (vs.map some) H' → Sub ρ' (as ++ [.sto S]) → Kp (Own (as ++ [.sto S]) (vs.map some)) H H' → ExcAt K (Av B ρ' (vs.map some)) H' cls d c f v → ex c f v ρ' → E cls d H')
def backX (ex : XS) (ρ : List Slot) : XS := fun c f v outs => ex c f v (putS ρ (stoS outs))
theorem spSX_ok {K : PySem.W.Frag} {B : Addr → Prop} {ρ ρ2 : List Slot} {σ : L2.St} {H H2 : Hp} {C : WEX} {W : WX} {ex : XS} {vs : List V} {ds : List D} {Q' : Slot → List Slot → Prop} {Q : VK} (R2 : Rep K B ρ2 σ H2) (hs : hasS ρ2) (r : RepL K (Av B ρ2 σ) H2 vs ds) (sub : Sub ρ2 ρ) (kp : Kp (Own ρ σ) H H2)
    (hC : C (backX ex ρ2) (ds.map .fro ++ [.sto (stoS ρ2)]) (backS Q' ρ2)) (hq : ∀ s v ρ' H', Post K B ρ' σ H H' s v → Sub ρ' ρ → Kp (Own ρ σ) H H' → Q' s ρ' → Q v H')
    (hx : ∀ c f v cls d ρ' H', Rep K B ρ' σ H' → Sub ρ' ρ → Kp (Own ρ σ) H H' → ExcAt K (Av B ρ' σ) H' cls d c f v → ex c f v ρ' → W cls d σ H') : spSX K ds.length C vs H2 Q (L2.WE W σ) := by
  obtain ⟨i, ei, ep, eg⟩ := hasS_at hs
  have sl := R2.slot i _ ei
  have ow : ∀ x, stoS ρ2 x ≠ none → Own ρ2 σ x := fun x z => .inr ⟨i, _, ei, z⟩
  obtain ⟨Rc, own, av⟩ := rep_sto (vs := vs) (ds := ds) (S := stoS ρ2) (fun x z => R2.av_trk z) R2.tabs (fun a o z => ⟨sl.2 a o z, .inl (ow a (by rw [z]; exact nofun))⟩) r
  have em : (ds.map Slot.fro ++ [Slot.sto (stoS ρ2)])[ds.length]? = some (.sto (stoS ρ2)) := by rw [List.getElem?_append_right (by rw [List.length_map]; exact Nat.le_refl _), List.length_map, Nat.sub_self]; rfl
  exact ⟨r.length, _, ds.map .fro, stoS ρ2, _, _, Rc, by rw [List.length_map, r.length], hC, fun s v outs H' post so k3 h => back_ok R2 hs sub kp em own hq post so k3 h, fun c f v cls d outs H' R' so k3 ea h => back_ex R2 hs sub kp em own hx R' so k3 ea h⟩
section
variable {P : Program} {w : World} {K : PySem.W.Frag} {mg : Str → Option Value} {base : Heap} {k : Nat} {f : Addr} {fd : FuncData} {x qual : Str} {st : Stmt} {N ps : List Str}
abbrev calmW (C : WEX) : WE := fun args Q => C (fun _ _ _ _ => False) args Q
def calmS (sp sp' : Sp) : Prop := ∀ vs H Q E, sp' vs H Q E → sp vs H Q fun _ _ _ => False
theorem calm_s {n : Nat} {C : WEX} : calmS (spSX K n C) (spS K n (calmW C)) := fun vs H Q E ⟨h1, B, as, S, Q', R, hl, hC, hq⟩ => ⟨h1, B, as, S, Q', _, R, hl, hC, hq, fun _ _ _ _ _ _ _ _ _ _ _ z => z⟩
theorem calm_c {outer : List Env} {H : Hp} {s : Shared} {Q : VK} {E : XK} {r : Result} {s' : Shared} (h : CR (L2.CX P w) outer P w H s Q (fun _ _ _ => False) r s') : CR CX0 outer P w H s Q E r s' := by
  match r, h with
  | .ok (.ret u), h => exact h
  | .ok .next, h => exact h.elim
  | .ok .brk, h => exact h.elim
  | .ok .cont, h => exact h.elim
  | .error e, h =>
    obtain ⟨_, _, _, _, _, _, _, _, _, _, _, _, z⟩ := h
    exact z.elim
theorem PromG.calm {sp sp' : Sp} (F : PromG P w K mg base (L2.CX P w) k f sp) (h : calmS sp sp') : PromG P w K mg base CX0 k f sp' := fun A outer s H us vs Q E hr hgu e0 r q =>
  codeAny_mono (F A outer s H us vs Q _ hr hgu e0 r (h _ _ _ _ q)) fun r s' c => calm_c c
theorem PromK.calm {n : Nat} {ks : List Str} {sp sp' : Sp} (F : PromK P w K mg base (L2.CX P w) k f n ks sp) (h : calmS sp sp') : PromK P w K mg base CX0 k f n ks sp' := fun A outer s H us ws vs zs Q E hr hgu e0 r rz h1 h2 q =>
  codeAny_mono (F A outer s H us ws vs zs Q _ hr hgu e0 r rz h1 h2 (h _ _ _ _ q)) fun r s' c => calm_c c
theorem FnG.calm {sp sp' : Sp} (F : FnG P w K mg base (L2.CX P w) k f fd ps sp) (h : calmS sp sp') : FnG P w K mg base CX0 k f fd ps sp' :=
  ⟨fun vs H Q E q => F.len _ _ _ _ (h _ _ _ _ q), fun A outer s H args us vs Q E hr hgu e0 hb r q => codeAny_mono (F.run A outer s H args us vs Q _ hr hgu e0 hb r (h _ _ _ _ q)) fun r s' c => calm_c c⟩
end
section
variable {X : Cx} {W : WX} {k : Nat} {e o : Expr} {es : List Expr} {kws : List Keyword} {w0 : WE} {ws us : List WE} {C : WEX} {x m c : Str} {p pos apos : Pos}
theorem run_pX {CX : CXT} {f : Addr} {sp : Sp} {E : XK} {pins : List (Addr × Obj)} {σ : L2.St} {H : Hp} {s : Shared} {Q : VK} {us : List Value} {vs : List V} (F : PromG X.prog X.w X.K X.mg X.base CX k f sp) (hr : Room k X.A) (hgu : X.A.guards = some []) (hx : PassesAt CX X σ E)
    (I : Inv X pins σ H s) (r : Vals vs us) (h : sp vs H Q E) : wpAny (model X.prog X.w) X.A (call (.ref f) us) (EP X pins σ Q) X.xe s := by
  refine wpAny_call (codeAny_mono (F X.A X.stack s H us vs Q E hr hgu I.env0 r h) fun res s' hq => ?_)
  match res, hq with
  | .ok (.ret u), hq => exact I.after hq
  | .ok .next, hq => exact hq.elim
  | .ok .brk, hq => exact hq.elim
  | .ok .cont, hq => exact hq.elim
  | .error e, hq => exact hx pins H s e s' I hq
structure CalleeSX (P : Program) (w : World) (K : PySem.W.Frag) (mg : Str → Option Value) (base : Heap) (k : Nat) (x : Str) (n : Nat) (C : WEX) : Prop where
  ex : ∃ f : Addr, PromG P w K mg base (L2.CX P w) k f (spSX K n C) ∧ mg x = some (.ref f) ∧ PySem.W.keepIn K (.ref f) = true
theorem CalleeSX.calm {P : Program} {w : World} {K : PySem.W.Frag} {mg : Str → Option Value} {base : Heap} {n : Nat} (c : CalleeSX P w K mg base k x n C) : CalleeS P w K mg base k x n (calmW C) :=
  let ⟨f, F, hm, hk⟩ := c.ex; ⟨f, F.calm calm_s, hm, hk⟩
def wCallGX (C : WEX) (ws : List WE) : WEX := fun ex ρ Q => wArgs ws ρ fun ss ρ1 => frzL ρ1 ss fun ds ρ2 => ds.length = ws.length ∧ hasS ρ2 ∧ C (backX ex ρ2) (ds.map .fro ++ [.sto (stoS ρ2)]) (backS Q ρ2)
theorem CalleeSX.call {n : Nat} (cl : CalleeSX X.prog X.w X.K X.mg X.base k x n C) (tk : Takes X W) (hr : Room k X.A) (hgu : X.A.guards = some []) (hg : Gl X x) (ha : MA X (e :: es) ws) (hn : ws.length = n := by rfl) (hdb : (x == ("__debug__" : Str)) = false := by decide)
    (he : starEach (e :: es) X.env = (false, eval e X.env) :: starEach es X.env := by rfl) (hpl : (backTo pos (starEach es X.env)).any (·.1) = false := by rfl) : MEX X W (.Call (.Name x p) (e :: es) [] pos) (wCallGX C ws) := by
  obtain ⟨f, F, hm, hk⟩ := cl.ex
  refine ⟨fun pins s σ H Q I ⟨B, ρ, Q', ex, R, hw, hq, hx⟩ => ?_⟩
  refine wpAny_Call_Name_kw (ld_glob I hg hm (PySem.W.callWith_K (h₀ := X.base) I.ok.mod.kin hk (thn (PA.run ha pos pins s σ H _ I (args_frz R hw fun ds vs ρ2 H2 R2 r sub kp ⟨hl, hs, hC⟩ => ?_)) fun us s1 ⟨vs, H1, I1, r, q⟩ => ⟨I1.kIn, run_pX (E := L2.WE W σ) F hr hgu (passAt tk σ) I1 r q⟩) he hpl) hdb)
  rw [← hn, ← hl]
  exact spSX_ok R2 hs r sub kp hC hq hx
structure MethSX (P : Program) (w : World) (K : PySem.W.Frag) (mg : Str → Option Value) (base : Heap) (k : Nat) (c m : Str) (sp : Sp) : Prop where
  ex : ∀ C, ClsAt K c C → ∃ f : Addr, Cls K C ∧ Meth K C m f ∧ PromG P w K mg base (L2.CX P w) k f sp
structure MethSKX (P : Program) (w : World) (K : PySem.W.Frag) (mg : Str → Option Value) (base : Heap) (k : Nat) (c m : Str) (n : Nat) (ks : List Str) (sp : Sp) : Prop where
  ex : ∀ C, ClsAt K c C → ∃ f : Addr, Cls K C ∧ Meth K C m f ∧ PromK P w K mg base (L2.CX P w) k f n ks sp
theorem MethSX.calm {P : Program} {w : World} {K : PySem.W.Frag} {mg : Str → Option Value} {base : Heap} {sp sp' : Sp} (t : MethSX P w K mg base k c m sp) (h : calmS sp sp') : MethS P w K mg base k c m sp' := ⟨fun C hc => let ⟨f, h1, h2, F⟩ := t.ex C hc; ⟨f, h1, h2, F.calm h⟩⟩
theorem MethSKX.calm {P : Program} {w : World} {K : PySem.W.Frag} {mg : Str → Option Value} {base : Heap} {n : Nat} {ks : List Str} {sp sp' : Sp} (t : MethSKX P w K mg base k c m n ks sp) (h : calmS sp sp') : MethSK P w K mg base k c m n ks sp' := ⟨fun C hc => let ⟨f, h1, h2, F⟩ := t.ex C hc; ⟨f, h1, h2, F.calm h⟩⟩
end
section
variable {X : Cx} {W : WX} {a b c e o : Expr} {w w1 w2 : WEX} {w0 : WE} {t : WT} {pos : Pos}
end
end Dl
namespace Dl
open PySem PySem.Spec PyProof.Rows L2
variable [TabN]
abbrev LamDS := Sto → (Slot → Sto → Prop) → (Str → Str → D → Sto → Prop) → Prop
def wActS (i : Nat) (d : D) (L : LamDS) : WEX := fun ex ρ Q => ρ[i]? = some (.fro d) ∧ hasS ρ ∧ L (stoS ρ) (fun s S => backS Q ρ s [.sto S]) (fun c f v S => ex c f v (putS ρ S))
section
variable {K : PySem.W.Frag} {B : Addr → Prop} {ρ : List Slot} {σ : L2.St} {H : Hp}
end
structure CalleeLS (P : Program) (w : World) (K : PySem.W.Frag) (mg : Str → Option Value) (base : Heap) (k : Nat) (x a : Str) (C : D → LamDS → WE) : Prop where
  ex : ∃ (g : Addr) (fd : FuncData) (st : Stmt) (N : List Str), Fun K x x st g fd ∧ FnScope N [a] (defScope st) ∧ N[0]? = some a ∧ Vis (defScope st) a ∧ mg x = some (.ref g) ∧ PySem.W.keepIn K (.ref g) = true ∧ L2.Binds K fd [a] [] ∧
    ∀ (cdv : Value) (A : Around) (outer : List Env) (s : Shared) (H : Hp) (E : XK), Room k (A.deeper (envOfC x (defScope st) s.heap.objs.size g cdv)) → (A.deeper (envOfC x (defScope st) s.heap.objs.size g cdv)).guards = some [] → ∀ (d : D) (L : LamDS),
      (∀ (W : WX) (pn : List (Addr × Obj)) (xe : Value → Shared → Prop) (p1 p2 : Pos), Takes ((bodyCx CX0 P w K mg base N x st g cdv A outer s H E).tr pn xe) W → MEX ((bodyCx CX0 P w K mg base N x st g cdv A outer s H E).tr pn xe) W (.Call (.Name a p1) [] [] p2) (wActS 0 d L)) →
      ∃ wb, MSs (bodyCx CX0 P w K mg base N x st g cdv A outer s H E).nox (defBody st) wb ∧ ∀ as S0 Q, as.length = 1 → C d L (as ++ [.sto S0]) Q → noOwn as ∧ wb (endsOfS as S0 Q) (as ++ List.replicate (N.length - 1) .nil ++ [.sto S0])
end Dl
namespace Dl
open PySem PySem.Spec PyProof.Rows L2
section
variable {P : Program} {w : World} {K : PySem.W.Frag} {mg : Str → Option Value} {base : Heap} {CX : CXT} {k : Nat} {f : Addr} {fd : FuncData} {ps : List Str} {sp : Sp}
end
section
variable [TabN] {X : Cx} {W : WX} {k : Nat} {e o : Expr} {es : List Expr} {w0 : WE} {ws : List WEX} {C : WE} {m c : Str} {pos apos : Pos}
end
namespace Hd
open He
end Hd
@[reducible] def tabsAt (T : List (Addr × Str)) : TabN := ⟨fun b => T.lookup b⟩
theorem tabs_nm : ∀ {Ps : List Addr} {qs : List Str} {i : Nat} {P : Addr} {q : Str}, Ps.Nodup → Ps[i]? = some P → qs[i]? = some q → (tabsAt (Ps.zip qs)).nm P = some q
  | [], _, _, _, _, _, h, _ => by cases h
  | _ :: _, [], _, _, _, _, _, h => by cases h
  | P0 :: Ps, q0 :: qs, 0, P, q, _, h1, h2 => by
    cases h1; cases h2
    show List.lookup P0 ((P0, q0) :: Ps.zip qs) = some q0
    rw [List.lookup_cons, show (P0 == P0) = true by simp]
  | P0 :: Ps, q0 :: qs, i + 1, P, q, nd, h1, h2 => by
    obtain ⟨n0, nd'⟩ := List.nodup_cons.mp nd
    have h1 : Ps[i]? = some P := h1
    have hP : P ≠ P0 := fun z => n0 (by rw [← z]; exact List.mem_of_getElem? h1)
    show List.lookup P ((P0, q0) :: Ps.zip qs) = some q
    rw [List.lookup_cons, show (P == P0) = false by simpa using hP]
    exact tabs_nm nd' h1 h2
end Dl
namespace Dl
open PySem PySem.Spec PyProof.Rows L2
section
variable [TabN] {X : Cx}
end
theorem FnG.imp [TabN] {P : Program} {w : World} {K : PySem.W.Frag} {mg : Str → Option Value} {base : Heap} {CX : CXT} {k : Nat} {f : Addr} {fd : FuncData} {ps : List Str} {sp sp' : Sp} (F : FnG P w K mg base CX k f fd ps sp) (h : ∀ vs H Q E, sp' vs H Q E → sp vs H Q E) : FnG P w K mg base CX k f fd ps sp' :=
  ⟨fun vs H Q E q => F.len _ _ _ _ (h _ _ _ _ q), fun A outer s H args us vs Q E hr hgu e0 hb r q => F.run A outer s H args us vs Q E hr hgu e0 hb r (h _ _ _ _ q)⟩
section
variable [TabN] {K : PySem.W.Frag}
end
end Dl
namespace Dl
open PySem PySem.Spec PyProof.Rows L2
variable [TabN]
structure LamS1 (sc scope : Scope) (b : Str) : Prop where
  kind : scope.kind = .function
  co : scope.isCoroutine = false
  gen : scope.isGenerator = false
  par : scope.names.lookup b = some .local
  own : ∀ y ∈ scope.names, y.2 ≠ .cell ∧ (y.2 = .local → y.1 = b)
  free : ∀ y ∈ scope.names, y.2 = .free → sc.names.lookup y.1 = some .cell ∨ sc.names.lookup y.1 = some .free
def lamSB1 (sc scope : Scope) (b : Str) : Bool :=
  decide (scope.kind = .function) && !scope.isCoroutine && !scope.isGenerator && decide (scope.names.lookup b = some .local) && scope.names.all fun y => !decide (y.2 = .cell) && (!decide (y.2 = .local) || decide (y.1 = b)) && (!decide (y.2 = .free) || decide (sc.names.lookup y.1 = some .cell) || decide (sc.names.lookup y.1 = some .free))
theorem lamS1_by {sc scope : Scope} {b : Str} (h : lamSB1 sc scope b = true) : LamS1 sc scope b := by
  unfold lamSB1 at h
  simp only [Bool.and_eq_true, Bool.or_eq_true, Bool.not_eq_true', decide_eq_true_eq, decide_eq_false_iff_not, List.all_eq_true] at h
  obtain ⟨⟨⟨⟨h1, h2⟩, h3⟩, h0⟩, h4⟩ := h
  refine ⟨h1, h2, h3, h0, fun y hy => ⟨(h4 y hy).1.1, fun e => ?_⟩, fun y hy e => ?_⟩
  · rcases (h4 y hy).1.2 with z | z
    · exact absurd e z
    · exact z
  · rcases (h4 y hy).2 with (z | z) | z
    · exact absurd e z
    · exact .inl z
    · exact .inr z
theorem LamS1.has {X : Cx} {scope : Scope} {b : Str} (L : LamS1 X.env.scope scope b) (ok : X.Ok) : ∀ y ∈ scope.names, y.2 = .free → ∃ c, X.env.cells.lookup y.1 = some c := fun y hy e => by
  rcases L.free y hy e with k | k
  · exact ok.has _ (.inl k)
  · exact ok.has _ (.inr k)
def parS (N : List Str) (b : Str) (σ : L2.St) (v : V) : L2.St := List.zipWith (fun x o => if x = b then none else o) N σ ++ [some v]
theorem parS_len {N : List Str} {b : Str} {σ : L2.St} {v : V} (h : σ.length = N.length) : (parS N b σ v).length = N.length + 1 := by
  unfold parS
  rw [List.length_append, List.length_zipWith, h, Nat.min_self]; rfl
theorem parS_at {N : List Str} {b : Str} {σ : L2.St} {v : V} {j : Nat} {y : Str} (h : σ.length = N.length) (hy : N[j]? = some y) (n : y ≠ b) : (parS N b σ v)[j]? = σ[j]? := by
  have hj := (List.getElem?_eq_some_iff.mp hy).1
  unfold parS
  rw [List.getElem?_append_left (by rw [List.length_zipWith, h, Nat.min_self]; exact hj), List.getElem?_zipWith, hy, List.getElem?_eq_getElem (by omega : j < σ.length)]
  show some (if y = b then none else _) = _
  rw [if_neg n]
theorem parS_end {N : List Str} {b : Str} {σ : L2.St} {v : V} (h : σ.length = N.length) : (parS N b σ v)[N.length]? = some (some v) := by
  unfold parS
  rw [List.getElem?_append_right (by rw [List.length_zipWith, h, Nat.min_self]; exact Nat.le_refl _), List.length_zipWith, h, Nat.min_self, Nat.sub_self]; rfl
theorem parS_of {N : List Str} {b : Str} {σ : L2.St} {v x : V} {j : Nat} {y : Str} (h : σ.length = N.length) (hy : (N ++ [b])[j]? = some y) (e : (parS N b σ v)[j]? = some (some x)) : (y = b ∧ x = v) ∨ (y ≠ b ∧ N[j]? = some y ∧ σ[j]? = some (some x)) := by
  by_cases hj : j < N.length
  · rw [List.getElem?_append_left hj] at hy
    by_cases n : y = b
    · unfold parS at e
      rw [List.getElem?_append_left (by rw [List.length_zipWith, h, Nat.min_self]; exact hj), List.getElem?_zipWith, hy, List.getElem?_eq_getElem (by omega : j < σ.length)] at e
      have e : some (if y = b then none else σ[j]) = some (some x) := e
      rw [if_pos n] at e
      cases e
    · rw [parS_at h hy n] at e
      exact .inr ⟨n, hy, e⟩
  · have hl := (List.getElem?_eq_some_iff.mp hy).1
    rw [List.length_append, List.length_singleton] at hl
    have hj : j = N.length := by omega
    subst hj
    rw [parS_end h] at e
    cases e
    rw [List.getElem?_append_right (Nat.le_refl _), Nat.sub_self] at hy
    cases hy
    exact .inl ⟨rfl, rfl⟩
abbrev lamCx1 (X : Cx) (A : Around) (outer : List Env) (s : Shared) (H : Hp) (E : XK) (scope : Scope) (f c' : Addr) (b : Str) : Cx := { LamX.lamCx X A outer s H E scope f c' with N := X.N ++ [b] }
section
variable {X : Cx} {pins : List (Addr × Obj)} {σ : L2.St} {H HZ : Hp} {s s1 : Shared}
theorem lam_start1 {A : Around} {outer : List Env} {E : XK} {scope : Scope} {f c' : Addr} {b : Str} {u : Value} {v : V} {h₁ : Heap} {tk : Nat} (I : Inv X pins σ H s) (L : LamS1 X.env.scope scope b) (e0 : Env0 X.prog X.w X.K X.mg X.base A outer s1 HZ) (hd : A.handled = none) (rv : RelV v u)
    (un : Un (frs X.stack) [] H HZ s.heap s1.heap) (hns : h₁.Ns s1.heap.objs.size fun y => ([(b, u)] : List (Str × Value)).reverse.lookup y) (kp : ∀ b o, s1.heap.get? b = some o → h₁.get? b = some o) :
    Inv (lamCx1 X A outer s1 HZ E scope f c' b) [] (parS X.N b σ v) HZ { s1 with heap := h₁, toks := tk } := by
  have hfree := L.has I.ok
  have cm : ∀ {y c}, (cloFrom X.env.cells scope.names []).lookup y = some c → X.env.cells.lookup y = some c := fun {y c} e => by
    rcases cloFrom_mem (PySem.mem_of_lookup e) with hm | ⟨h1, h2⟩
    · cases hm
    · obtain ⟨c1, hc⟩ := hfree _ h1 rfl
      have hc : X.env.cells.lookup y = some c1 := hc
      have e2 : c = c1 := by
        rw [h2, hc] <;> rfl
      rw [e2]
      exact hc
  have look : ∀ {y}, scope.names.lookup y = some .free → ∃ c, (cloFrom X.env.cells scope.names []).lookup y = some c := fun {y} hl => by
    have hy : (y, NameKind.free) ∈ scope.names := PySem.mem_of_lookup hl
    exact mem_lookup (cloFrom_has (cells := X.env.cells) (acc := []) hy)
  have cellK : ∀ {c : Addr} {v : Option Value}, H c = none → s.heap.IsCell c v → h₁.IsCell c v := fun {c v} n ⟨o, ho, hd⟩ => by
    obtain ⟨sl, q⟩ := un.any ho n (by simp)
    exact ⟨_, kp _ _ q, hd⟩
  have noA : ∀ a : Addr, a ∉ (lamCx1 X A outer s1 HZ E scope f c' b).ex := fun a z => absurd (show a ∈ ([] : List Addr) from z) (by simp)
  refine ⟨⟨e0.mod, L.kind, rfl, rfl, Nat.le_refl _, fun y z c e1 e2 => I.ok.inj y z c (cm e1) (cm e2), fun y hy => ?_, fun y c z _ => ?_, fun _ => hd, Around.frames_deeper e0.frames, .inr ⟨rfl, rfl⟩, fun b z => absurd z (noA b), e0.bs, e0.bsz, fun b _ _ => noA b,
      fun b z => absurd z (noA b), e0.funs, e0.frf⟩,
    rfl, e0.bare, Un.kept kp, ⟨_, hns, fun i y v' e1 e2 e3 => ?_⟩, fun y c e => ?_, e0.hok.fresh (Nat.le_refl _), fun y c e => ?_, fun q hq => absurd (show q ∈ ([] : List (Addr × Obj)) ++ [] from hq) (by simp), e0.hok.kept kp, ?_⟩
  · have hy : scope.names.lookup y = some .cell ∨ scope.names.lookup y = some .free := hy
    rcases hy with hy | hy
    · exact absurd rfl (L.own _ (PySem.mem_of_lookup hy)).1
    · exact look hy
  · have z : false = true := z
    cases z
  · have e3 : Vis scope y := e3
    rcases parS_of I.len e1 e2 with ⟨rfl, rfl⟩ | ⟨ny, e1, e2⟩
    · exact ⟨u, rv, .inl ⟨L.par, by show ([(y, u)] : List (Str × Value)).lookup y = some u; simp [List.lookup]⟩⟩
    rcases e3 with k | k | k
    · exact absurd ((L.own _ (PySem.mem_of_lookup k)).2 rfl) ny
    · exact absurd rfl (L.own _ (PySem.mem_of_lookup k)).1
    · obtain ⟨m, hn, hl⟩ := I.loc
      have hvis : Vis X.env.scope y := (L.free _ (PySem.mem_of_lookup k) rfl).elim (fun k => .inr (.inl k)) (fun k => .inr (.inr k))
      obtain ⟨w', r, q⟩ := hl i y v' e1 e2 hvis
      obtain ⟨c2, h2⟩ := look k
      refine ⟨w', r, .inr ⟨.inr k, c2, h2, ?_⟩⟩
      have c1 := cm h2
      rcases q with ⟨k', _⟩ | ⟨_, c3, e', z⟩
      · have k' : X.env.scope.names.lookup y = some .local := k'
        rcases L.free _ (PySem.mem_of_lookup k) rfl with k2 | k2 <;> rw [show X.env.scope.names.lookup y = _ from k2] at k' <;> cases k'
      · rw [c1] at e'
        cases e'
        exact cellK (I.freeC y _ c1) z
  · obtain ⟨w', z⟩ := I.cell y c (cm e)
    exact ⟨w', cellK (I.freeC y c (cm e)) z⟩
  · obtain ⟨v, o, ho, hd⟩ := I.cell y c (cm e)
    exact un.free c o ho (I.freeC y c (cm e)) (by simp)
  · show (parS X.N b σ v).length = (X.N ++ [b]).length
    rw [parS_len I.len, List.length_append, List.length_singleton]
theorem pe_act1 {CXg : CXT} {Eg : XK} {Ng : List Str} {qg : Str} {sg : Scope} {g f c' : Addr} {cdg pm ctv : Value} {params : Arguments} {body e : Expr} {scope : Scope} {k i : Nat} {a b : Str} {xe : Value → Shared → Prop} {t te : TE} {p1 p2 : Pos}
    (I : Inv X pins σ H s) (L : LamS1 X.env.scope scope b) (hf : s.heap.get? f = some (PySem.W.kla_obj "<lambda>" (X.env.qual ++ "<lambda>") params body scope (cloFrom X.env.cells scope.names []) pm c' ctv)) (hfn : H f = none) (hfr : f ∉ frs X.stack)
    (hbind : ∀ u, bindArgs (PySem.W.kla_fn "<lambda>" (X.env.qual ++ "<lambda>") params body scope (cloFrom X.env.cells scope.names []) pm (.ref c') ctv) ⟨[u], []⟩ = pure [(b, u)])
    (hr : Room (k + 1) (X.A.deeper (envOfC qg sg s.heap.objs.size g cdg))) (hgu : X.A.guards = some [])
    (hbody : ∀ (A : Around) (outer : List Env) (s : Shared) (H : Hp) (E : XK), Room k (A.deeper (LamX.lamEnv X scope s.heap.objs.size f c')) → A.guards = some [] → PE (lamCx1 X A outer s H E scope f c' b).nox body t)
    (he : PE ((cxOf CXg X.prog X.w X.K X.mg X.base Ng qg sg g cdg X.A X.stack s H Eg).wish xe) e te)
    (hst : starEach [e] ((cxOf CXg X.prog X.w X.K X.mg X.base Ng qg sg g cdg X.A X.stack s H Eg).wish xe).env = (false, eval e ((cxOf CXg X.prog X.w X.K X.mg X.base Ng qg sg g cdg X.A X.stack s H Eg).wish xe).env) :: starEach [] ((cxOf CXg X.prog X.w X.K X.mg X.base Ng qg sg g cdg X.A X.stack s H Eg).wish xe).env)
    (hN : Ng[i]? = some a) (hv : Vis sg a) (hd : (a == ("__debug__" : Str)) = false := by decide) (hcd : (a == ("__classdict__" : Str)) = false := by decide) :
    PE ((cxOf CXg X.prog X.w X.K X.mg X.base Ng qg sg g cdg X.A X.stack s H Eg).wish xe) (.Call (.Name a p1) [e] [] p2)
      (fun σZ HZ Q => σZ[i]? = some (some (.ref f)) ∧ te σZ HZ fun v H1 => H1 c' = some (LamX.CodeO c' (X.env.qual ++ "<lambda>")) ∧ t (parS X.N b σ v) H1 Q) := by
  refine ⟨fun pinsZ sZ σZ HZ Q IZ h => ?_⟩
  obtain ⟨hs, ht⟩ := h
  refine wpAny_Call_Name_kw (thn ((pe_var (pos := p1) (i := i) hN hv hd hcd).run pinsZ sZ σZ HZ (fun v H1 => v = .ref f ∧ H1 = HZ) IZ ⟨.ref f, hs, rfl, rfl⟩) fun u s1 ⟨v, H1, I1, r1, q1⟩ => ?_)
  obtain ⟨ev, eH⟩ := q1
  subst ev
  rw [eH] at I1
  obtain rfl : u = Value.ref f := r1
  have of1 : s1.heap.get? f = some (PySem.W.kla_obj "<lambda>" (X.env.qual ++ "<lambda>") params body scope (cloFrom X.env.cells scope.names []) pm c' ctv) := I1.base.keep f _ hf hfn hfr (fun z => nomatch (show f ∈ ([] : List Addr) from z))
  refine PySem.W.callWith_F ⟨_, _, _, _, of1⟩ ?_ hst (by rfl)
  rw [hst]
  show wpAny _ _ (spliced ((false, eval e _) :: [])) _ _ s1
  refine Calls.spliced_cons (thn (he.run pinsZ s1 σZ HZ _ I1 ht) fun u s2 ⟨v, H2, I2, rv, hc, ht⟩ => ?_)
  have of2 : s2.heap.get? f = some (PySem.W.kla_obj "<lambda>" (X.env.qual ++ "<lambda>") params body scope (cloFrom X.env.cells scope.names []) pm c' ctv) := I2.base.keep f _ hf hfn hfr (fun z => nomatch (show f ∈ ([] : List Addr) from z))
  refine Calls.spliced_nil ⟨⟨_, _, _, _, of2⟩, ?_⟩
  have un : Un (frs X.stack) [] H H2 s.heap s2.heap := I2.base
  obtain ⟨⟨oc, vs, t', hoc, hdc, hvc⟩, _, _⟩ := I2.hok c' _ hc
  have rc : codeAny (model X.prog X.w) (X.A.deeper (envOfC qg sg s.heap.objs.size g cdg)) (.call (.ref f) ⟨[u], []⟩) (CR (L2.CX X.prog X.w) (envOfC qg sg s.heap.objs.size g cdg :: X.stack) X.prog X.w H2 s2 Q (fun _ _ _ => False)) s2 := by
    refine PySem.W.kla_callFunE hr.depth of2 rfl L.co L.gen rfl ⟨c', oc, vs, t', rfl, hoc, hdc, hvc⟩ ?_
    rw [hbind]
    refine wpAny_pure (wpAny_newFunctionEnv (fun y hy => (L.own y hy).1) (fun y hy => ?_) (fun h₁ hns hsb => ⟨I2.nolimit.fresh _ hsb, ?_⟩) L.kind)
    · rw [List.mem_singleton.mp hy]; exact L.par
    show codeAny _ _ (.expr body (LamX.lamEnv X scope s2.heap.objs.size f c')) _ _
    have kp : ∀ b o, s2.heap.get? b = some o → h₁.get? b = some o := fun b o e => hsb.extBut b o (Nat.ne_of_lt (Heap.lt_size e)) (Heap.get?_push_of_some _ e)
    have J : Inv (lamCx1 X (X.A.deeper (envOfC qg sg s.heap.objs.size g cdg)) (envOfC qg sg s.heap.objs.size g cdg :: X.stack) s2 H2 (fun _ _ _ => False) scope f c' b) [] (parS X.N b σ v) H2 { s2 with heap := h₁, toks := s2.toks + ([(b, u)] : List (Str × Value)).length } :=
      lam_start1 I L I2.env0 hr.hd rv un hns kp
    refine PySem.W.kla_codeExpr (wpAny_mono ((hbody _ _ s2 H2 _ (hr.deeper _) hgu).run [] _ _ H2 Q (J.wish _) ht) (fun v s' hq => ?_) fun e s' hq => hq.elim)
    obtain ⟨w', H', J', rv, q⟩ := hq
    exact ⟨w', H', J'.os, J'.bare, J'.base, J'.hok, rv, q⟩
  refine wpAny_call (codeAny_mono rc fun r s' hq => ?_)
  cases r with
  | error e =>
    obtain ⟨_, _, _, _, _, _, _, _, _, _, _, _, z⟩ := hq
    exact z.elim
  | ok fl =>
    cases fl with
    | ret u => exact I2.after hq
    | next => exact False.elim hq
    | brk => exact False.elim hq
    | cont => exact False.elim hq
end
end Dl
namespace Dl
open PySem PySem.Spec PyProof.Rows L2
variable [TabN]
abbrev LamP := D → (Slot → Prop) → Prop
def wAct1 (i : Nat) (d : D) (L : LamP) (w : WE) : WE := fun ρ Q => ρ[i]? = some (.fro d) ∧ w ρ fun s ρ' => match s with
  | .fro x => ρ'[i]? = some (.fro d) ∧ L x fun r => match r with
    | .fro u => Q (.fro u) ρ'
    | .own _ o => Q (.own false o) ρ'
    | _ => False
  | _ => False
def lamOf1 (wb : WE) (n : Nat) (js : List Nat) (ds : List D) : LamP := fun x k => wb (viewL (js ++ [n]) (ds ++ [x]) (List.replicate (n + 1) .nil)) fun s _ => match s with
  | .fro d => k (.fro d)
  | .own _ o => k (.own false o)
  | _ => False
def wLam1 (C : LamP → D → (Slot → Prop) → Prop) (js : List Nat) (w0 wb : WE) : WE := fun ρ Q => w0 ρ fun s0 ρ0 => match s0 with
  | .fro p => capt ρ0 js fun ds ρ1 => (∀ S, Slot.sto S ∉ ρ1) ∧ C (lamOf1 wb ρ1.length js ds) p fun s => match s with
    | .fro d => Q (.fro d) ρ1
    | .own _ o => Q (.own false o) ρ1
    | _ => False
  | _ => False
structure CalleeL1 (P : Program) (w : World) (K : PySem.W.Frag) (mg : Str → Option Value) (base : Heap) (k : Nat) (x a : Str) (C : LamP → D → (Slot → Prop) → Prop) : Prop where
  ex : ∃ (g : Addr) (fd : FuncData) (st : Stmt) (N : List Str) (q : Str), Fun K x x st g fd ∧ FnScope N [q, a] (defScope st) ∧ N[1]? = some a ∧ Vis (defScope st) a ∧ mg x = some (.ref g) ∧ PySem.W.keepIn K (.ref g) = true ∧ L2.Binds K fd [q, a] [] ∧
    ∀ (cdv : Value) (A : Around) (outer : List Env) (s : Shared) (H : Hp) (E : XK), Room k (A.deeper (envOfC x (defScope st) s.heap.objs.size g cdv)) → (A.deeper (envOfC x (defScope st) s.heap.objs.size g cdv)).guards = some [] → ∀ (d : D) (L : LamP),
      (∀ (e : Expr) (w0 : WE) (p1 p2 : Pos), ME (bodyCx CX0 P w K mg base N x st g cdv A outer s H E).nox e w0 → (starEach [e] (bodyCx CX0 P w K mg base N x st g cdv A outer s H E).nox.env = (false, eval e (bodyCx CX0 P w K mg base N x st g cdv A outer s H E).nox.env) :: starEach [] (bodyCx CX0 P w K mg base N x st g cdv A outer s H E).nox.env) →
        ME (bodyCx CX0 P w K mg base N x st g cdv A outer s H E).nox (.Call (.Name a p1) [e] [] p2) (wAct1 1 d L w0)) →
      ∃ wb, MSs (bodyCx CX0 P w K mg base N x st g cdv A outer s H E).nox (defBody st) wb ∧ ∀ (p : D) (Q : Slot → Prop), C L p Q → wb (endsOf [.fro p, .fro d] fun s _ => Q s) ([.fro p, .fro d] ++ List.replicate (N.length - 2) .nil)
theorem me_lam1 {X : Cx} {k : Nat} {x a b : Str} {C : LamP → D → (Slot → Prop) → Prop} {js : List Nat} {w0 wb : WE} {e0 : Expr} {params : Arguments} {body : Expr} {scope : Scope} {p lpos pos : Pos} (c : CalleeL1 X.prog X.w X.K X.mg X.base (k + 1) x a C) (mk : LamMk X) (hr : Room (k + 2) X.A) (hgu : X.A.guards = some [])
    (hg : Gl X x) (L : LamS1 X.env.scope scope b) (hjs : ∀ j ∈ js, ∃ y, X.N[j]? = some y ∧ y ≠ b) (hdef : defaultsOf params X.env = ([], []))
    (hbind : ∀ (q : Str) (cl : List (Str × Addr)) (pm cv ctv u : Value), bindArgs (PySem.W.kla_fn "<lambda>" q params body scope cl pm cv ctv) ⟨[u], []⟩ = pure [(b, u)])
    (hbody : ∀ (A : Around) (outer : List Env) (s : Shared) (H : Hp) (E : XK) (f c' : Addr), Room k (A.deeper (LamX.lamEnv X scope s.heap.objs.size f c')) → (A.deeper (LamX.lamEnv X scope s.heap.objs.size f c')).guards = some [] → ME (lamCx1 X A outer s H E scope f c' b).nox body wb)
    (h0 : ME X e0 w0)
    (hst : starEach [e0, .Lambda params body scope lpos] X.env = (false, eval e0 X.env) :: starEach [.Lambda params body scope lpos] X.env := by rfl)
    (hdb : (x == ("__debug__" : Str)) = false := by decide) (hd : (a == ("__debug__" : Str)) = false := by decide) (hcd : (a == ("__classdict__" : Str)) = false := by decide) :
    ME X (.Call (.Name x p) [e0, .Lambda params body scope lpos] [] pos) (wLam1 C js w0 wb) := by
  obtain ⟨g, fd, st, N, q0, F, S, hN1, hva, hm, hk, hb, hG⟩ := c.ex
  obtain ⟨cc, P, TB, hcode, hnm⟩ := mk.ex
  obtain ⟨oc, od, kV, doc, pm, an, cdv, ct, osl, rfl, lk, hcg⟩ := F.ex
  refine ⟨fun pins s σ H Q I h => ?_⟩
  obtain ⟨B, ρ, Q', R, hw, hq⟩ := h
  refine wpAny_Call_Name_kw (ld_glob I hg hm ?_ hdb)
  refine PySem.W.callWith_K (h₀ := X.base) I.ok.mod.kin hk ?_ hst (by rfl)
  rw [hst]
  show wpAny _ _ (spliced ((false, eval e0 X.env) :: (false, eval (.Lambda params body scope lpos) X.env) :: [])) _ _ s
  refine Calls.spliced_cons (thn (PE.run h0 pins s σ H _ I ⟨B, ρ, _, R, hw, fun s0 v0 ρ0 H0 post0 sub0 kp0 h0 => (show (fun v0 H0 => ∃ (p : D) (ρ0 : List Slot), Rep X.K B ρ0 σ H0 ∧ RepV X.K (Av B ρ0 σ) H0 v0 p ∧ Sub ρ0 ρ ∧ Kp (Own ρ σ) H H0 ∧ capt ρ0 js fun ds ρ1 => (∀ S, Slot.sto S ∉ ρ1) ∧ C (lamOf1 wb ρ1.length js ds) p fun s => match s with
    | .fro d => Q' (.fro d) ρ1
    | .own _ o => Q' (.own false o) ρ1
    | _ => False) v0 H0 from ?g)⟩) fun u0 s0 ⟨v0, H0, I0, rv0, p, ρ0, R0, rp, sub0, kp0, hcap⟩ => ?_)
  case g =>
    match s0, post0, h0 with
    | .fro p, post0, h0 => exact ⟨p, ρ0, post0.1, post0.2, sub0, kp0, h0⟩
  obtain ⟨ds, vs, ρ1, ⟨nS, hC⟩, R1, s1, r, hv⟩ := capt_ok R0 hcap
  have len1 : ρ1.length = σ.length := by
    refine Nat.le_antisymm ?_ R1.len
    cases hlen : ρ1.length with
    | zero => exact Nat.zero_le _
    | succ m =>
      have hm : m < ρ1.length := by omega
      rcases R1.tail m _ (List.getElem?_eq_getElem hm) with z | ⟨S, z⟩
      · exact z
      · exact absurd (by rw [← z]; exact List.getElem_mem hm) (nS S)
  have rp1 : RepV X.K (Av B ρ1 σ) H0 v0 p := rp.av fun a z => z.elim (fun z => .inl (s1.own a z)) .inr
  refine Calls.spliced_cons (lam_makeN I0 TB hcode hnm R1.tabs hdef (L.has I0.ok) fun f c' pm' ctv H1 s' I1 kp hf hfn hfr hco => ?_)
  refine Calls.spliced_nil ⟨I1.kIn, ?_⟩
  have R2 := R1.same kp fun a z => .inl z
  have r2 : RepL X.K (Av B ρ1 σ) H1 vs ds := r.mono kp (fun _ z => z.elim) fun x z => .inl z
  have rp2 : RepV X.K (Av B ρ1 σ) H1 v0 p := rp1.mono kp (fun _ z => z.elim) fun x z => .inl z
  let d : D := .fn f c' (X.env.qual ++ "<lambda>") vs ds
  have rf : RepL X.K (Av B ρ1 σ) H1 [v0, .ref f] [p, d] := .cons rp2 (.one (.fn hco r2))
  have Rc : Rep X.K (Av B ρ1 σ) ([p, d].map .fro) ([v0, V.ref f].map some) H1 := repL_rep (fun a z => R2.av_trk z) R2.tabs rf
  have af : allFro ([p, d].map Slot.fro) := allFro_map [p, d]
  have rc : codeAny (model X.prog X.w) X.A (.call (.ref g) ⟨[u0, .ref f], []⟩) (CR CX0 X.stack X.prog X.w H1 s' Q E0) s' := by
    refine LamX.run_ofS (N := N) (ps := [q0, a]) (us := [u0, .ref f]) (vs := [v0, .ref f]) lk hcg S hr I1.env0 (hb s' [u0, .ref f] I1.kIn rfl) (.cons rv0 (.cons rfl .nil)) rfl fun hr' => ?_
    have hact : ∀ (e : Expr) (w1 : WE) (p1 p2 : Pos), ME (bodyCx CX0 X.prog X.w X.K X.mg X.base N x st g cdv X.A X.stack s' H1 E0).nox e w1 → (starEach [e] (bodyCx CX0 X.prog X.w X.K X.mg X.base N x st g cdv X.A X.stack s' H1 E0).nox.env = (false, eval e (bodyCx CX0 X.prog X.w X.K X.mg X.base N x st g cdv X.A X.stack s' H1 E0).nox.env) :: starEach [] (bodyCx CX0 X.prog X.w X.K X.mg X.base N x st g cdv X.A X.stack s' H1 E0).nox.env) →
        ME (bodyCx CX0 X.prog X.w X.K X.mg X.base N x st g cdv X.A X.stack s' H1 E0).nox (.Call (.Name a p1) [e] [] p2) (wAct1 1 d (lamOf1 wb ρ1.length js ds) w1) := fun e w1 p1 p2 he hse => by
      refine PE_weak (pe_act1 (i := 1) (k := k) (t := tOf X.K wb) I1 L hf hfn hfr (fun u => hbind _ _ _ _ _ u) hr' hgu (fun A outer s H E hr2 hgu2 => ?_) he hse hN1 hva hd hcd) fun σZ HZ QZ hz => ?_
      · exact hbody A outer s H E f c' hr2 hgu2
      · obtain ⟨Bz, ρz, Qz, Rz, ⟨h0, hw1⟩, hqz⟩ := hz
        obtain ⟨v, e0, rv⟩ := Rz.slot 1 _ h0
        have rv : RepV X.K (Av Bz ρz σZ) HZ v (.fn f c' (X.env.qual ++ "<lambda>") vs ds) := rv
        cases rv with
        | fn hc rd =>
          refine ⟨e0, Bz, ρz, _, Rz, hw1, fun s1 v1 ρ2 H2 post1 sub1 kp1 h1 => ?_⟩
          match s1, post1, h1 with
          | .fro y, post1, ⟨h2, hL⟩ =>
            have Rw := post1.1
            obtain ⟨v', e0', rv'⟩ := Rw.slot 1 _ h2
            have rv' : RepV X.K (Av Bz ρ2 σZ) H2 v' (.fn f c' (X.env.qual ++ "<lambda>") vs ds) := rv'
            cases rv' with
            | fn hc2 rd2 =>
              have lenP : (parS X.N b σ v1).length = ρ1.length + 1 := by rw [parS_len I1.len, len1, I1.len]
              obtain ⟨V0, no0⟩ := nils_ok (K := X.K) (σ := parS X.N b σ v1) (fun a z => Rw.av_trk z) Rw.tabs (n := ρ1.length + 1) lenP.symm
              have hjv : (js ++ [ρ1.length]).map (fun j => (parS X.N b σ v1)[j]?) = (vs ++ [v1]).map fun v => some (some v) := by
                rw [List.map_append, List.map_append, ← hv]
                congr 1
                · refine List.map_congr_left fun j hj => ?_
                  obtain ⟨y, hy, ny⟩ := hjs j hj
                  exact parS_at I1.len hy ny
                · rw [List.map_singleton, List.map_singleton, len1, I1.len, parS_end I1.len]
              obtain ⟨V1, no1⟩ := view_ok (js := js ++ [ρ1.length]) V0 no0 (rd2.append (.one post1.2)) hjv
              refine ⟨hc2, Av Bz ρ2 σZ, _, _, V1, hL, fun s v ρ' H' post _ k3 h => ?_⟩
              have e : Kp (fun _ => False) H2 H' := k3.mono fun a z => no1.own z
              have kz : Kp (Own ρz σZ) HZ H' := (kp1.trans (e.mono fun _ z => z.elim) fun _ z => z)
              match s, post, h with
              | .fro d, post, h => exact hqz _ _ ρ2 H' (postF (Rw.same e fun a z => .inl z) (post.2.av fun a z => .inr z)) sub1 kz h
              | .own b o, ⟨a, hv, n, nb, R', q⟩, h =>
                subst hv
                refine hqz _ _ ρ2 H' (postO (b := false) (kp1.back n) (fun z => Rw.btr a z n) (Rw.same e fun x z => z.elim .inl fun z => .inr ⟨by rw [z]; exact n, by rw [z]; exact q.trk⟩) (q.av fun x z => ?_)) sub1 kz h
                rcases z with z | z | z
                · exact .inr (.inl (.inl z))
                · exact .inr (.inl (.inr z))
                · exact .inr (.inr z)
    obtain ⟨w, hwb, hCw⟩ := hG cdv X.A X.stack s' H1 E0 hr' hgu d (lamOf1 wb ρ1.length js ds) hact
    refine ⟨_, PSs.nox hwb, ?_⟩
    have hw := hCw p _ hC
    have hst : L2.start N [v0, V.ref f] = [v0, V.ref f].map some ++ List.replicate (N.length - 2) none := rfl
    obtain ⟨R0, ow⟩ := Rc.start (n := N.length - 2) rfl
    obtain ⟨F0, en⟩ := body_start (Q' := fun s _ => match s with
      | .fro d => Q' (.fro d) ρ1
      | .own _ o => Q' (.own false o) ρ1
      | _ => False) (Q := Q) (N.length - 2) Rc rfl af.no fun s v ρ' H' post _ k3 h => by
        have e : Kp (fun _ => False) H1 H' := k3.mono fun a z => af.own z
        have k' : Kp (Own ρ σ) H H' := kp0.trans ((kp.trans e fun _ z => z).mono fun _ z => z.elim) fun _ z => z
        have s2 := sub0.trans s1
        match s, post, h with
        | .fro d, post, h => exact hq _ _ ρ1 H' (postF (R2.same e fun a z => .inl z) (post.2.av fun a z => .inr z)) s2 k' h
        | .own b o, ⟨a, hv, n, nb, R', q⟩, h =>
          subst hv
          refine hq _ _ ρ1 H' (postO (b := false) (kp0.back (kp.back n)) (fun z => R2.btr a z n) (R2.same e fun x z => z.elim .inl fun z => .inr ⟨by rw [z]; exact n, by rw [z]; exact q.trk⟩) (q.av fun x z => ?_)) s2 k' h
          rcases z with z | z | z
          · exact .inr (.inl (.inl z))
          · exact .inr (.inl (.inr z))
          · exact .inr (.inr z)
    rw [hst]
    exact ⟨Av B ρ1 σ, H1, _, _, _, R0, F0, hw, en⟩
  refine wpAny_call (codeAny_mono rc fun r s2 hq => ?_)
  cases r with
  | error e => exact (show False from hq).elim
  | ok fl =>
    cases fl with
    | ret u => exact I1.after hq
    | next => exact False.elim hq
    | brk => exact False.elim hq
    | cont => exact False.elim hq
end Dl
namespace Lw
open PySem L2 Dl
def topS (i : Nat) : Stmt := PySem.Challenge.pw_piecefacts_k02_two_range_sets.main.body.getD i (.Pass ⟨0, 0, 0, 0⟩)
abbrev s_united : Stmt := topS 1
abbrev s_both : Stmt := topS 2
abbrev s_either : Stmt := topS 3
abbrev s_gaps : Stmt := topS 4
abbrev s_without : Stmt := topS 5
abbrev s__law_pot : Stmt := topS 7
abbrev s__law_draw : Stmt := topS 8
abbrev s__law_any : Stmt := topS 9
abbrev s__law_spans : Stmt := topS 10
abbrev s__law_in : Stmt := topS 11
abbrev s__law_points : Stmt := topS 12
abbrev s__law_made : Stmt := topS 13
abbrev s__law_poured : Stmt := topS 14
abbrev s__law_numbers : Stmt := topS 15
abbrev s__law_of_numbers : Stmt := topS 16
abbrev s__law_pair : Stmt := topS 17
abbrev s__law_due : Stmt := topS 18
abbrev s__law_right : Stmt := topS 19
abbrev s_law : Stmt := topS 20
abbrev d0 : Hd.FnE := ⟨fun K => He.ga K "united", "united", "united", s_united⟩
abbrev d1 : Hd.FnE := ⟨fun K => He.ga K "both", "both", "both", s_both⟩
abbrev d2 : Hd.FnE := ⟨fun K => He.ga K "either", "either", "either", s_either⟩
abbrev d3 : Hd.FnE := ⟨fun K => He.ga K "gaps", "gaps", "gaps", s_gaps⟩
abbrev d4 : Hd.FnE := ⟨fun K => He.ga K "without", "without", "without", s_without⟩
abbrev d5 : Hd.FnE := ⟨fun K => He.ga K "_law_pot", "_law_pot", "_law_pot", s__law_pot⟩
abbrev d6 : Hd.FnE := ⟨fun K => He.ga K "_law_draw", "_law_draw", "_law_draw", s__law_draw⟩
abbrev d7 : Hd.FnE := ⟨fun K => He.ga K "_law_any", "_law_any", "_law_any", s__law_any⟩
abbrev d8 : Hd.FnE := ⟨fun K => He.ga K "_law_spans", "_law_spans", "_law_spans", s__law_spans⟩
abbrev d9 : Hd.FnE := ⟨fun K => He.ga K "_law_in", "_law_in", "_law_in", s__law_in⟩
abbrev d10 : Hd.FnE := ⟨fun K => He.ga K "_law_points", "_law_points", "_law_points", s__law_points⟩
abbrev d11 : Hd.FnE := ⟨fun K => He.ga K "_law_made", "_law_made", "_law_made", s__law_made⟩
abbrev d12 : Hd.FnE := ⟨fun K => He.ga K "_law_poured", "_law_poured", "_law_poured", s__law_poured⟩
abbrev d13 : Hd.FnE := ⟨fun K => He.ga K "_law_numbers", "_law_numbers", "_law_numbers", s__law_numbers⟩
abbrev d14 : Hd.FnE := ⟨fun K => He.ga K "_law_of_numbers", "_law_of_numbers", "_law_of_numbers", s__law_of_numbers⟩
abbrev d15 : Hd.FnE := ⟨fun K => He.ga K "_law_pair", "_law_pair", "_law_pair", s__law_pair⟩
abbrev d16 : Hd.FnE := ⟨fun K => He.ga K "_law_due", "_law_due", "_law_due", s__law_due⟩
abbrev d17 : Hd.FnE := ⟨fun K => He.ga K "_law_right", "_law_right", "_law_right", s__law_right⟩
abbrev d18 : Hd.FnE := ⟨fun K => He.ga K "law", "law", "law", s_law⟩
def xsL : List Hd.FnE := []
abbrev mkA : Hd.Fg → Addr := fun K => He.ga K "_law_due"
def fn : List Hd.FnE := ([d0, d1, d2, d3, d4, d5, d6, d7, d8, d9, d10, d11, d12, d13, d14, d15, d16, d17, d18] : List Hd.FnE)
def fs0 : List (Hd.Fg → Bool) := [Hd.glo "united", Hd.glo "both", Hd.glo "either", Hd.glo "gaps", Hd.glo "without", Hd.glo "_law_pot", Hd.glo "_law_draw", Hd.glo "_law_any", Hd.glo "_law_spans", Hd.glo "_law_in", Hd.glo "_law_points", Hd.glo "_law_made", Hd.glo "_law_poured", Hd.glo "_law_numbers", Hd.glo "_law_of_numbers", Hd.glo "_law_pair", Hd.glo "_law_due", Hd.glo "_law_right", Hd.glo "law", Hd.fre "sorted", Hd.fre "max", Hd.fre "tuple", Hd.fre "len", Hd.fre "min", Hd.fre "abs", Hd.fre "int", Hd.fre "range", Hd.fre "any", Hd.fre "set", Hd.fre "list"]
def fs1 : List (Hd.Fg → Bool) := [Hd.fre "repr"]
def fs : List (Hd.Fg → Bool) := fs0 ++ fs1
def nm0 : List Str := ["united", "both", "either", "gaps", "without", "_law_pot", "_law_draw", "_law_any", "_law_spans", "_law_in", "_law_points", "_law_made", "_law_poured", "_law_numbers", "_law_of_numbers", "_law_pair", "_law_due", "_law_right"]
def nms : List Str := nm0
abbrev RwH : PySem.W.OpenRow := PySem.W.OpenLaw.row PySem.Challenge.rw_piecefacts_k02_two_range_sets
abbrev ads : List Addr := List.range 1500
set_option maxHeartbeats 0 in
theorem hrun (w : World) : HandSHeadRun.RunEq RwH (PySem.W.view RwH.prog [20]) (Hd.hookX ads fs fn xsL mkA) (Hd.obX ads fs fn xsL mkA) 40000 nms w := by
  intro os
  kernel_rfl
open PySem.W PyProof.Rows in
set_option maxHeartbeats 0 in
noncomputable def headP : { P : Prop // P → PySem.Challenge.rw_piecefacts_k02_two_range_sets.Holds } := by
  refine ⟨?P, ?h⟩
  case h =>
    intro hP
    w_on; o_law
    refine HandSHeadRun.head_any (r := PySem.W.OpenLaw.row PySem.Challenge.rw_piecefacts_k02_two_range_sets) (q := view (PySem.W.OpenLaw.row PySem.Challenge.rw_piecefacts_k02_two_range_sets).prog [20]) (H := Dl.Hd.hookX Lw.ads Lw.fs Lw.fn Lw.xsL Lw.mkA) (ob := Dl.Hd.obX Lw.ads Lw.fs Lw.fn Lw.xsL Lw.mkA) (M := 40000) (loose := Lw.nms) (d := HandSHeadRun.topDef (PySem.W.OpenLaw.row PySem.Challenge.rw_piecefacts_k02_two_range_sets).prog 20) (kwd := []) Dl.Hd.obX_eq
      (by kernel_rfl) (fun s => by kernel_rfl) Lw.hrun (by kernel_rfl) (by kernel_rfl) (by kernel_rfl) (by rfl) (by first | assumption | decide +kernel) (by decide +kernel) ⟨rfl, rfl, rfl, rfl, rfl, by decide +kernel⟩ ?hw ?hc
    case hw => w_witness2
    case hc => exact hP
end Lw
namespace Rs
abbrev RS := List (Int × Int)
def In (rs : RS) (x : Int) : Prop := ∃ p ∈ rs, p.1 ≤ x ∧ x ≤ p.2
def Ok (rs : RS) : Prop := ∀ p ∈ rs, p.1 ≤ p.2
def Gap (p q : Int × Int) : Prop := p.2 + 1 < q.1
structure Canon (rs : RS) : Prop where
  ok : Ok rs
  gap : rs.Pairwise Gap
theorem In.nil {x : Int} : ¬ In [] x := fun ⟨p, h, _⟩ => by cases h
theorem in_cons {p : Int × Int} {rs : RS} {x : Int} : In (p :: rs) x ↔ (p.1 ≤ x ∧ x ≤ p.2) ∨ In rs x := by
  constructor
  · rintro ⟨q, h, hx⟩
    rcases List.mem_cons.mp h with rfl | h
    · exact .inl hx
    · exact .inr ⟨q, h, hx⟩
  · rintro (h | ⟨q, h, hx⟩)
    · exact ⟨p, by simp, h⟩
    · exact ⟨q, List.mem_cons_of_mem _ h, hx⟩
theorem in_append {rs ss : RS} {x : Int} : In (rs ++ ss) x ↔ In rs x ∨ In ss x := by
  constructor
  · rintro ⟨q, h, hx⟩
    rcases List.mem_append.mp h with h | h
    · exact .inl ⟨q, h, hx⟩
    · exact .inr ⟨q, h, hx⟩
  · rintro (⟨q, h, hx⟩ | ⟨q, h, hx⟩)
    · exact ⟨q, List.mem_append_left _ h, hx⟩
    · exact ⟨q, List.mem_append_right _ h, hx⟩
theorem Canon.nil : Canon [] := ⟨fun _ h => (nomatch h), .nil⟩
theorem Canon.tail {p : Int × Int} {rs : RS} (h : Canon (p :: rs)) : Canon rs := ⟨fun q hq => h.ok q (List.mem_cons_of_mem _ hq), (List.pairwise_cons.mp h.gap).2⟩
theorem Canon.head {p : Int × Int} {rs : RS} (h : Canon (p :: rs)) : p.1 ≤ p.2 := h.ok p (by simp)
theorem Canon.above {p : Int × Int} {rs : RS} (h : Canon (p :: rs)) {x : Int} (hx : In rs x) : p.2 + 1 < x := by
  obtain ⟨q, hq, h1, _⟩ := hx
  have := (List.pairwise_cons.mp h.gap).1 q hq
  unfold Gap at this
  omega
theorem canon_ext : ∀ {rs ss : RS}, Canon rs → Canon ss → (∀ x, In rs x ↔ In ss x) → rs = ss
  | [], [], _, _, _ => rfl
  | [], q :: ss, _, hs, h => absurd ((h q.1).2 (in_cons.2 (.inl ⟨Int.le_refl _, hs.head⟩))) In.nil
  | p :: rs, [], hr, _, h => absurd ((h p.1).1 (in_cons.2 (.inl ⟨Int.le_refl _, hr.head⟩))) In.nil
  | p :: rs, q :: ss, hr, hs, h => by
    have hp := hr.head
    have hq := hs.head
    have e1 : p.1 = q.1 := by
      have a := in_cons.1 ((h p.1).1 (in_cons.2 (.inl ⟨Int.le_refl _, hp⟩)))
      have b := in_cons.1 ((h q.1).2 (in_cons.2 (.inl ⟨Int.le_refl _, hq⟩)))
      rcases a with a | a
      · rcases b with b | b
        · omega
        · have := hr.above b; omega
      · have := hs.above a
        rcases b with b | b
        · omega
        · have := hr.above b; omega
    have e2 : p.2 = q.2 := by
      have a := in_cons.1 ((h p.2).1 (in_cons.2 (.inl ⟨hp, Int.le_refl _⟩)))
      have b := in_cons.1 ((h q.2).2 (in_cons.2 (.inl ⟨hq, Int.le_refl _⟩)))
      have a' : p.2 ≤ q.2 := by
        rcases a with a | a
        · omega
        · have hx := hs.above a
          have c := in_cons.1 ((h (q.2 + 1)).1 (in_cons.2 (.inl ⟨by omega, by omega⟩)))
          rcases c with c | c
          · omega
          · have := hs.above c; omega
      have b' : q.2 ≤ p.2 := by
        rcases b with b | b
        · omega
        · have hx := hr.above b
          have c := in_cons.1 ((h (p.2 + 1)).2 (in_cons.2 (.inl ⟨by omega, by omega⟩)))
          rcases c with c | c
          · omega
          · have := hr.above c; omega
      omega
    have e : p = q := Prod.ext e1 e2
    subst e
    rw [canon_ext hr.tail hs.tail fun x => ?_]
    have hx := h x
    rw [in_cons, in_cons] at hx
    constructor
    · intro i
      have := hr.above i
      rcases hx.1 (.inr i) with z | z
      · omega
      · exact z
    · intro i
      have := hs.above i
      rcases hx.2 (.inr i) with z | z
      · omega
      · exact z
theorem canon_snoc {rs : RS} {p : Int × Int} (h : Canon rs) (hp : p.1 ≤ p.2) (hg : ∀ q ∈ rs, Gap q p) : Canon (rs ++ [p]) :=
  ⟨fun q hq => (List.mem_append.mp hq).elim (h.ok q) fun z => by rw [List.mem_singleton.mp z]; exact hp, List.pairwise_append.mpr ⟨h.gap, by simp, fun q hq r hr => by rw [List.mem_singleton.mp hr]; exact hg q hq⟩⟩
end Rs
namespace Lw
open PySem L2 Dl Rs
def rsD (rs : RS) : D := .tup (rs.map pairD)
def C_united : WE := fun args Q => ∃ ps : RS, (args = [.fro (.lst (ps.map pairD))] ∨ args = [.fro (.tup (ps.map pairD))]) ∧ Ok ps ∧ ps.length ≤ 10000000 ∧
  ∀ rs, Canon rs → rs.length ≤ ps.length → (∀ x, In rs x ↔ In ps x) → Q (.fro (rsD rs)) args
def inB (rs : RS) (x : Int) : Bool := rs.any fun p => decide (p.1 ≤ x) && decide (x ≤ p.2)
def C_both : WE := fun args Q => ∃ a b : RS, args = [.fro (rsD a), .fro (rsD b)] ∧ Canon a ∧ Canon b ∧ a.length ≤ 1000000 ∧ b.length ≤ 1000000 ∧
  ∀ rs, Canon rs → rs.length ≤ a.length + b.length → (∀ x, In rs x ↔ In a x ∧ In b x) → Q (.fro (rsD rs)) args
def C_either : WE := fun args Q => ∃ a b : RS, args = [.fro (rsD a), .fro (rsD b)] ∧ Ok a ∧ Ok b ∧ a.length ≤ 1000000 ∧ b.length ≤ 1000000 ∧
  ∀ rs, Canon rs → rs.length ≤ a.length + b.length → (∀ x, In rs x ↔ In a x ∨ In b x) → Q (.fro (rsD rs)) args
def C_gaps : WE := fun args Q => ∃ (a : RS) (lo hi : Int), args = [.fro (rsD a), .fro (.int lo), .fro (.int hi)] ∧ Canon a ∧ lo ≤ hi ∧ a.length ≤ 100000 ∧
  ∀ rs, Canon rs → rs.length ≤ a.length + 2 → (∀ x, In rs x ↔ (lo ≤ x ∧ x ≤ hi) ∧ ¬ In a x) → Q (.fro (rsD rs)) args
def C_without : WE := fun args Q => ∃ a b : RS, args = [.fro (rsD a), .fro (rsD b)] ∧ Canon a ∧ Canon b ∧ a.length ≤ 100000 ∧ b.length ≤ 100000 ∧
  ∀ rs, Canon rs → rs.length ≤ a.length + b.length + 2 → (∀ x, In rs x ↔ In a x ∧ ¬ In b x) → Q (.fro (rsD rs)) args
def SumIn (a b : RS) (x : Int) : Prop := ∃ y z, In a y ∧ In b z ∧ x = y + z
def SumsTo (a : RS) : Nat → Int → Prop
  | 0, x => x = 0
  | n + 1, x => ∃ y z, SumsTo a n y ∧ In a z ∧ x = y + z
def C_sums : WE := fun args Q => ∃ (a : RS) (n : Nat), args = [.fro (rsD a), .fro (.int n)] ∧ Ok a ∧ n ≤ 1000 ∧ a.length ≤ 1000000 ∧ (∀ j, j < n → ∀ rs, Canon rs → rs.length ≤ a.length ^ j → (∀ x, In rs x ↔ SumsTo a j x) → rs.length ≤ 1000000 ∧ rs.length * a.length ≤ 1000000) ∧
  ∀ rs, Canon rs → rs.length ≤ a.length ^ n → (∀ x, In rs x ↔ SumsTo a n x) → Q (.fro (rsD rs)) args
theorem noOwn_fro (ds : List D) : noOwn (ds.map .fro) := fun i o e => by
  rw [List.getElem?_map] at e
  cases q : ds[i]? with
  | none => rw [q] at e; cases e
  | some d => rw [q] at e; cases e
theorem noOwn1 (d : D) : noOwn [.fro d] := noOwn_fro [d]
theorem noOwn2 (d e : D) : noOwn [.fro d, .fro e] := noOwn_fro [d, e]
theorem noOwn3 (d e f : D) : noOwn [.fro d, .fro e, .fro f] := noOwn_fro [d, e, f]
theorem big (n : Nat) (h : n ≤ 16000000) : n ≤ sizeLine := Nat.le_trans h (by decide)
theorem big' (n : Nat) (h : n < 16000000) : n < sizeLine := Nat.lt_of_lt_of_le h (by decide)
theorem atI_0 {α : Type} {x : α} {r : List α} : atI (x :: r) 0 = some x := atI_nat (j := 0) rfl
theorem atI_1 {α : Type} {x y : α} {r : List α} : atI (x :: y :: r) 1 = some y := atI_nat (j := 1) rfl
theorem atI_2 {α : Type} {x y z : α} {r : List α} : atI (x :: y :: z :: r) 2 = some z := atI_nat (j := 2) rfl
theorem atI_m1 {α : Type} {x : α} {r : List α} : atI (r ++ [x]) (-1) = some x := atI_last r x
theorem shD_int (i : Int) : shD (.int i) := ⟨rfl, rfl⟩
theorem gEq_int {a b : Int} {k : Dl.Slot → Prop} : gEq (.int a) (.int b) k = k (.fro (.bl (decide (a = b)))) := by
  have e : PyData.eqv (pyD (.int a)) (pyD (.int b)) = decide (a = b) := Bool.beq_eq_decide_eq a b
  rw [gEq_sh (shD_int a) (shD_int b), e]
theorem gNe_int {a b : Int} {k : Dl.Slot → Prop} : gNe (.int a) (.int b) k = k (.fro (.bl (!decide (a = b)))) := by
  have e : PyData.eqv (pyD (.int a)) (pyD (.int b)) = decide (a = b) := Bool.beq_eq_decide_eq a b
  rw [gNe_sh (shD_int a) (shD_int b), e]
theorem canLayAll_pairs : ∀ rs : RS, PyData.canLayAll0 (pyL (rs.map pairD)) = true
  | [] => rfl
  | p :: rs => by
    show (PyData.canLay0 (pyD (pairD p)) && PyData.canLayAll0 (pyL (rs.map pairD))) = true
    rw [canLayAll_pairs rs]
    rfl
theorem depthAll_pairs : ∀ rs : RS, PyData.depthAll (pyL (rs.map pairD)) ≤ 2
  | [] => by decide
  | p :: rs => by
    have ih := depthAll_pairs rs
    have e : PyData.depthAll (pyL ((p :: rs).map pairD)) = max (PyData.depth (pyD (pairD p))) (PyData.depthAll (pyL (rs.map pairD))) := rfl
    have e2 : PyData.depth (pyD (pairD p)) = 1 := rfl
    rw [e, e2]
    omega
theorem plain_pairs : ∀ rs : RS, plainL (rs.map pairD) = true
  | [] => rfl
  | p :: rs => by
    show (plainD (pairD p) && plainL (rs.map pairD)) = true
    rw [plain_pairs rs]
    rfl
theorem shD_rs (rs : RS) : shD (rsD rs) := by
  refine ⟨plain_pairs rs, ?_⟩
  unfold SeqAt.shaped
  have h1 : PyData.canLay0 (pyD (rsD rs)) = true := canLayAll_pairs rs
  have h2 : PyData.depth (pyD (rsD rs)) ≤ 64 := by
    have := depthAll_pairs rs
    show PyData.depthAll (pyL (rs.map pairD)) + 1 ≤ 64
    omega
  rw [h1, decide_eq_true h2]
  rfl
theorem eqvAll_pairs : ∀ rs ss : RS, PyData.eqvAll (pyL (rs.map pairD)) (pyL (ss.map pairD)) = decide (rs = ss)
  | [], [] => rfl
  | [], q :: ss => rfl
  | p :: rs, [] => rfl
  | p :: rs, q :: ss => by
    show (PyData.eqv (pyD (pairD p)) (pyD (pairD q)) && PyData.eqvAll (pyL (rs.map pairD)) (pyL (ss.map pairD))) = _
    rw [eqvAll_pairs rs ss]
    have e : PyData.eqv (pyD (pairD p)) (pyD (pairD q)) = decide (p = q) := by
      show ((p.1 == q.1) && ((p.2 == q.2) && true)) = _
      obtain ⟨a, b⟩ := p
      obtain ⟨c, d⟩ := q
      by_cases h1 : a = c <;> by_cases h2 : b = d <;> simp [h1, h2]
    rw [e]
    by_cases h1 : p = q <;> by_cases h2 : rs = ss <;> simp [h1, h2]
theorem gEq_rs {a b : RS} {k : Dl.Slot → Prop} : gEq (rsD a) (rsD b) k = k (.fro (.bl (decide (a = b)))) := by
  have e : PyData.eqv (pyD (rsD a)) (pyD (rsD b)) = decide (a = b) := eqvAll_pairs a b
  rw [gEq_sh (shD_rs a) (shD_rs b), e]
end Lw
namespace Lw
open PySem L2 Dl Rs
local macro_rules | `(tactic| walk_at "dl") => `(tactic| simp (config := { maxSteps := 400000 }) only [wSeq, wIfS, wAnd, wOr, wNot, wRet, wDrop, wNext, wBrk, wCnt, wAndV, wOrV, wNotV, wB, wIf, wCB, wArgs, wVar, wC, wTup, wLst, wOp, wChain, wNeg, wSl, wP, wNoP, wSet, wPar, wAsg, wCall, wCallP, wCallN, wApp, wExt, wMt, gApp, gExt, wSetIx, wSeqI, wRng1, wRng2, wZip, wEnum, wFor, withL, lookL, lookD, with2, frz, frzL, prep, put, notLent, kindO, gTp, gNms, gNm, O.d, itemsOf, leave, endsOf, outsOf, clean, wYes,
    gI, gIC, Dl.gSub, gFdiv, gMod, gPow, gLt, gLe, gGt, gGe, gAdd, gMul, gIsN, gNotN, Dl.isNon, gIx, gSl, gLen, gAbs, gInt1, gMax2, gMin2, gTuple, gList, gIsi, atI_0, atI_1, atI_2, atI_m1,
    List.getElem?_cons_zero, List.getElem?_cons_succ, List.set_cons_zero, List.set_cons_succ, List.cons_append, List.nil_append, List.append_nil, List.replicate, List.length_cons, List.length_nil, List.map_cons, List.map_nil, Nat.reduceAdd, Nat.reduceSub, Nat.add_one_sub_one,
    true_and, and_true, if_true, if_false, Bool.false_eq_true, Bool.not_true, Bool.not_false, reduceIte, ite_true, ite_false])
local macro_rules | `(tactic| walk_at "lb") => `(tactic| simp (config := { maxSteps := 400000 }) only [lcBody, wipeD, back, Option.getD_some, wSeq, wIfS, wAnd, wOr, wNot, wRet, wDrop, wNext, wBrk, wCnt, wAndV, wOrV, wNotV, wB, wIf, wCB, wArgs, wVar, wC, wTup, wLst, wOp, wChain, wNeg, wSl, wP, wNoP, wSet, wPar, wAsg, wCall, wCallP, wCallN, wApp, wExt, wMt, gApp, gExt, wSetIx, wSeqI, wRng1, wRng2, wZip, wEnum, wFor, withL, lookL, lookD, with2, frz, frzL, prep, put, notLent, kindO, gTp, gNms, gNm, O.d, itemsOf, leave, endsOf, outsOf, clean, wYes,
    gI, gIC, Dl.gSub, gFdiv, gMod, gPow, gLt, gLe, gGt, gGe, gAdd, gMul, gIsN, gNotN, Dl.isNon, gIx, gSl, gLen, gAbs, gInt1, gMax2, gMin2, gTuple, gList, gIsi, atI_0, atI_1, atI_2, atI_m1,
    List.getElem?_cons_zero, List.getElem?_cons_succ, List.set_cons_zero, List.set_cons_succ, List.cons_append, List.nil_append, List.append_nil, List.replicate, List.length_cons, List.length_nil, List.map_cons, List.map_nil, Nat.reduceAdd, Nat.reduceSub, Nat.add_one_sub_one,
    true_and, and_true, if_true, if_false, Bool.false_eq_true, Bool.not_true, Bool.not_false, reduceIte, ite_true, ite_false])
theorem lcl_all {g : WG} {t : WT} {e : WE} {vs : List Nat} {Q : List D → List Dl.Slot → Prop} {ρ : List Dl.Slot} {f : D → D} {P : D → Prop} (n : Nat) (hn : n ≤ 1000000)
    (step : ∀ d, P d → ∀ (acc : List D) (k1 : D → List Dl.Slot → Prop) (k0 : List Dl.Slot → Prop), k1 (f d) ρ → g d (wipeD ρ vs) (lcBody t e ρ vs k1 k0)) :
    ∀ (ds acc : List D), (∀ d ∈ ds, P d) → ds.length + acc.length ≤ n → Q (acc ++ ds.map f) ρ → lcl g t e vs Q ds ρ acc
  | [], acc, _, _, hq => by rw [List.map_nil, List.append_nil] at hq; exact hq
  | d :: ds, acc, hP, hl, hq => by
    rw [List.length_cons] at hl
    refine step d (hP d (by simp)) acc _ _ ⟨big' _ (by omega), lcl_all n hn step ds _ (fun x hx => hP x (List.mem_cons_of_mem _ hx)) (by rw [List.length_append, List.length_singleton]; omega) ?_⟩
    rw [List.append_assoc]
    exact hq
end Lw
namespace Lw
open PySem L2 Dl Rs
local macro_rules | `(tactic| walk_at "dl") => `(tactic| simp (config := { maxSteps := 400000 }) only [wSeq, wIfS, wAnd, wOr, wNot, wRet, wDrop, wNext, wBrk, wCnt, wAndV, wOrV, wNotV, wB, wIf, wCB, wArgs, wVar, wC, wTup, wLst, wOp, wChain, wNeg, wSl, wP, wNoP, wSet, wPar, wAsg, wCall, wCallP, wCallN, wApp, wExt, wMt, gApp, gExt, wSetIx, wSeqI, wRng1, wRng2, wZip, wEnum, wFor, withL, lookL, lookD, with2, frz, frzL, prep, put, notLent, kindO, gTp, gNms, gNm, O.d, itemsOf, leave, endsOf, outsOf, clean, wYes,
    gI, gIC, Dl.gSub, gFdiv, gMod, gPow, gLt, gLe, gGt, gGe, gAdd, gMul, gIsN, gNotN, Dl.isNon, gIx, gSl, gLen, gAbs, gInt1, gMax2, gMin2, gTuple, gList, gIsi, atI_0, atI_1, atI_2, atI_m1,
    List.getElem?_cons_zero, List.getElem?_cons_succ, List.set_cons_zero, List.set_cons_succ, List.cons_append, List.nil_append, List.append_nil, List.replicate, List.length_cons, List.length_nil, List.map_cons, List.map_nil, Nat.reduceAdd, Nat.reduceSub, Nat.add_one_sub_one,
    true_and, and_true, if_true, if_false, Bool.false_eq_true, Bool.not_true, Bool.not_false, reduceIte, ite_true, ite_false])
def wr_united_1 : WS := (wPar 2 3 (wVar 4) (wVar 5))
def wb_united_2 : WS := (wIfS (wAnd (wB (wOp gNotN (wVar 2) (wC .non))) (wB (wOp gLe (wVar 4) (wOp gAdd (wVar 3) (wC (.int 1)))))) (wSet 3 (wCB gMax2 [(wVar 3), (wVar 5)])) (wSeq (wIfS (wB (wOp gNotN (wVar 2) (wC .non))) (wDrop (wApp 1 (wTup [(wVar 2), (wVar 3)]))) wNext)
  wr_united_1))
def wr_united_3 : WS := (wRet (wCB gTuple [(wVar 1)]))
def wr_united_4 : WS := (wSeq (wIfS (wB (wOp gNotN (wVar 2) (wC .non))) (wDrop (wApp 1 (wTup [(wVar 2), (wVar 3)]))) wNext)
  wr_united_3)
def w_united : WS := (wSeq (wSet 1 (wLst []))
  (wSeq (wAsg (wTup [(wC .non), (wC .non)]) (gTp [2, 3]))
  (wSeq (wFor (wSeqI (wCB gSortP [(wVar 0)])) (gTp [4, 5]) wb_united_2)
  wr_united_4)))
theorem loop_cons {g : WG} {w : WS} {KD : DEnds} {d : D} {ds : List D} {ρ : List Dl.Slot} : loop g w KD (d :: ds) ρ = g d ρ fun ρ1 => w { nx := loop g w KD ds, ct := loop g w KD ds, bk := KD.nx, rt := KD.rt } ρ1 := rfl
theorem loop_nil {g : WG} {w : WS} {KD : DEnds} {ρ : List Dl.Slot} : loop g w KD [] ρ = KD.nx ρ := rfl
theorem pairD_eq {a b : Int} : pairD (a, b) = .tup [.int a, .int b] := rfl
theorem lexLe_ge {p q : Int × Int} (h : lexLe p q) : p.1 ≤ q.1 := by unfold lexLe at h; omega
theorem pour_in {fs : RS} {s e l h : Int} (c : Canon (fs ++ [(s, e)])) (hl : s ≤ l) (hle : l ≤ e + 1) (ho : l ≤ h) : Canon (fs ++ [(s, max e h)]) ∧ ∀ x, In (fs ++ [(s, max e h)]) x ↔ In (fs ++ [(s, e)]) x ∨ (l ≤ x ∧ x ≤ h) := by
  have c0 : Canon fs := ⟨fun p hp => c.ok p (List.mem_append_left _ hp), (List.pairwise_append.mp c.gap).1⟩
  have hse := c.ok (s, e) (by simp)
  refine ⟨canon_snoc c0 (by show s ≤ max e h; omega) fun q hq => (List.pairwise_append.mp c.gap).2.2 q hq (s, e) (by simp), fun x => ?_⟩
  rw [in_append, in_append, in_cons, in_cons]
  have hse : s ≤ e := hse
  constructor
  · rintro (z | ⟨z1, z2⟩ | z)
    · exact .inl (.inl z)
    · have z1 : s ≤ x := z1
      have z2 : x ≤ max e h := z2
      by_cases hx : x ≤ e
      · exact .inl (.inr (.inl ⟨z1, hx⟩))
      · exact .inr ⟨by omega, by omega⟩
    · exact absurd z In.nil
  · rintro ((z | ⟨z1, z2⟩ | z) | ⟨z1, z2⟩)
    · exact .inl z
    · have z1 : s ≤ x := z1
      have z2 : x ≤ e := z2
      exact .inr (.inl ⟨z1, show x ≤ max e h by omega⟩)
    · exact absurd z In.nil
    · exact .inr (.inl ⟨show s ≤ x by omega, show x ≤ max e h by omega⟩)
theorem loop_united (KD : DEnds) (a0 : Dl.Slot) : ∀ (qs fs : RS) (s e : Int) (l h : D), qs.Pairwise lexLe → (∀ q ∈ qs, s ≤ q.1) → Ok qs → Canon (fs ++ [(s, e)]) → fs.length + qs.length < 16000000 →
    (∀ (fs' : RS) (s' e' : Int) (l' h' : D), Canon (fs' ++ [(s', e')]) → (∀ x, In (fs' ++ [(s', e')]) x ↔ In (fs ++ [(s, e)]) x ∨ In qs x) → fs'.length ≤ fs.length + qs.length →
      KD.nx [a0, .own false (.lst (fs'.map pairD)), .fro (.int s'), .fro (.int e'), .fro l', .fro h']) →
    loop (gTp [4, 5]) wb_united_2 KD (qs.map pairD) [a0, .own false (.lst (fs.map pairD)), .fro (.int s), .fro (.int e), .fro l, .fro h]
  | [], fs, s, e, l, h, _, _, _, hc, _, hk => hk fs s e l h hc (fun x => ⟨.inl, fun z => z.elim id fun z => absurd z In.nil⟩) (by simp)
  | (ql, qh) :: qs, fs, s, e, l, h, hs, hge, ho, hc, hn, hk => by
    have hq : s ≤ ql := hge (ql, qh) (by simp)
    have hqo : ql ≤ qh := ho (ql, qh) (by simp)
    have hs' := List.pairwise_cons.mp hs
    have ho' : Ok qs := fun p hp => ho p (List.mem_cons_of_mem _ hp)
    rw [List.length_cons] at hn
    rw [List.map_cons, loop_cons, pairD_eq]
    generalize hL : loop (gTp [4, 5]) wb_united_2 KD (qs.map pairD) = L
    unfold wb_united_2 wr_united_1
    walk_at "dl"
    subst hL
    by_cases hle : ql ≤ e + 1
    · rw [if_pos (decide_eq_true hle)]
      obtain ⟨c1, i1⟩ := pour_in hc hq hle hqo
      refine loop_united KD a0 qs fs s (max e qh) _ _ hs'.2 (fun q hq' => hge q (List.mem_cons_of_mem _ hq')) ho' c1 (by omega) fun fs' s' e' l' h' c2 i2 n2 => hk fs' s' e' l' h' c2 (fun x => ?_) (by rw [List.length_cons]; omega)
      rw [i2 x, i1 x, in_cons]
      exact ⟨fun z => z.elim (fun z => z.elim .inl fun z => .inr (.inl z)) fun z => .inr (.inr z), fun z => z.elim (fun z => .inl (.inl z)) fun z => z.elim (fun z => .inl (.inr z)) .inr⟩
    · rw [if_neg (by rw [decide_eq_false hle]; exact Bool.false_ne_true)]
      refine ⟨⟨_, _, rfl, rfl⟩, by decide, by rw [List.length_map]; exact big' _ (by omega), ?_⟩
      have hse : s ≤ e := hc.ok (s, e) (by simp)
      have c1 : Canon ((fs ++ [(s, e)]) ++ [(ql, qh)]) := canon_snoc hc hqo fun r hr => by
        rcases List.mem_append.mp hr with hr | hr
        · have := (List.pairwise_append.mp hc.gap).2.2 r hr (s, e) (by simp)
          unfold Gap at this ⊢
          have this : r.2 + 1 < s := this
          show r.2 + 1 < ql
          omega
        · rw [List.mem_singleton.mp hr]
          show e + 1 < ql
          omega
      have em : fs.map pairD ++ [D.tup [D.int s, D.int e]] = (fs ++ [(s, e)]).map pairD := by rw [List.map_append]; rfl
      rw [em]
      refine loop_united KD a0 qs (fs ++ [(s, e)]) ql qh _ _ hs'.2 (fun q hq' => lexLe_ge (hs'.1 q hq')) ho' c1 (by rw [List.length_append, List.length_singleton]; omega) fun fs' s' e' l' h' c2 i2 n2 => hk fs' s' e' l' h' c2 (fun x => ?_) (by rw [List.length_append, List.length_singleton] at n2; rw [List.length_cons]; omega)
      rw [i2 x, in_append, in_cons, in_cons]
      exact ⟨fun z => z.elim (fun z => z.elim .inl fun z => .inr (.inl (z.elim id fun z => absurd z In.nil))) fun z => .inr (.inr z), fun z => z.elim (fun z => .inl (.inl z)) fun z => z.elim (fun z => .inl (.inr (.inl z))) .inr⟩
theorem ok_united (args : List Dl.Slot) (Q : Dl.Slot → List Dl.Slot → Prop) (hl : args.length = 1) (h : C_united args Q) : noOwn args ∧ w_united (endsOf args Q) (args ++ List.replicate (6 - 1) .nil) := by
  obtain ⟨ps, ha, hok, hz, hq⟩ := h
  obtain ⟨d, rfl, hd⟩ : ∃ d, args = [.fro d] ∧ ∀ k, gSortP [d] k = ∀ qs : List (Int × Int), qs.Perm ps → qs.Pairwise lexLe → k (.own false (.lst (qs.map pairD))) := by
    rcases ha with rfl | rfl
    · exact ⟨_, rfl, fun k => by simp only [gSortP, pairsOf_map]⟩
    · exact ⟨_, rfl, fun k => by simp only [gSortP, pairsOf_map]⟩
  refine ⟨noOwn1 d, ?_⟩
  unfold w_united
  walk_at "dl"
  refine ⟨Nat.zero_le _, by decide, ?_⟩
  rw [hd]
  intro qs hp hsrt
  have hok' : Ok qs := fun p h => hok p (hp.mem_iff.mp h)
  have hin : ∀ x, In qs x ↔ In ps x := fun x => ⟨fun ⟨p, h, z⟩ => ⟨p, hp.mem_iff.mp h, z⟩, fun ⟨p, h, z⟩ => ⟨p, hp.mem_iff.mpr h, z⟩⟩
  have hlen := hp.length_eq
  match qs, hsrt, hok', hin, hlen with
  | [], _, _, hin, hlen =>
    rw [List.map_nil]
    walk_at "dl"
    rw [loop_nil]
    unfold wr_united_4 wr_united_3
    walk_at "dl"
    exact hq [] Canon.nil (Nat.zero_le _) fun x => hin x
  | (ql, qh) :: qs, hsrt, hok', hin, hlen =>
    have hqo : ql ≤ qh := hok' (ql, qh) (by simp)
    have hs' := List.pairwise_cons.mp hsrt
    rw [List.length_cons] at hlen
    rw [List.map_cons, pairD_eq]
    walk_at "dl"
    rw [loop_cons]
    generalize hL : loop (gTp [4, 5]) wb_united_2 _ (qs.map pairD) = L
    unfold wb_united_2 wr_united_1
    walk_at "dl"
    subst hL
    refine loop_united _ _ qs [] ql qh _ _ hs'.2 (fun q hq' => lexLe_ge (hs'.1 q hq')) (fun p hp => hok' p (List.mem_cons_of_mem _ hp)) ⟨fun p hp => by rw [List.mem_singleton.mp hp]; exact hqo, by simp⟩ (by simp only [List.length_nil]; omega) fun fs s e l h c i n => ?_
    dsimp only
    unfold wr_united_4 wr_united_3
    walk_at "dl"
    rw [List.length_nil] at n
    refine ⟨⟨_, _, rfl, rfl⟩, by decide, by rw [List.length_map]; exact big' _ (by omega), ?_⟩
    have em : fs.map pairD ++ [D.tup [D.int s, D.int e]] = (fs ++ [(s, e)]).map pairD := by rw [List.map_append]; rfl
    rw [em]
    refine hq (fs ++ [(s, e)]) c (by rw [List.length_append, List.length_singleton]; omega) fun x => ?_
    rw [i x, ← hin x, List.nil_append, in_cons, in_cons]
    exact ⟨fun z => z.elim (fun z => .inl (z.elim id fun z => absurd z In.nil)) .inr, fun z => z.elim (fun z => .inl (.inl z)) .inr⟩
end Lw
namespace Lw
open PySem L2 Dl Rs
local macro_rules | `(tactic| walk_at "dl") => `(tactic| simp (config := { maxSteps := 400000 }) only [wSeq, wIfS, wAnd, wOr, wNot, wRet, wDrop, wNext, wBrk, wCnt, wAndV, wOrV, wNotV, wB, wIf, wCB, wArgs, wVar, wC, wTup, wLst, wOp, wChain, wNeg, wSl, wP, wNoP, wSet, wPar, wAsg, wCall, wCallP, wCallN, wApp, wExt, wMt, gApp, gExt, wSetIx, wSeqI, wRng1, wRng2, wZip, wEnum, wFor, withL, lookL, lookD, with2, frz, frzL, prep, put, notLent, kindO, gTp, gNms, gNm, O.d, itemsOf, leave, endsOf, outsOf, clean, wYes,
    gI, gIC, Dl.gSub, gFdiv, gMod, gPow, gLt, gLe, gGt, gGe, gAdd, gMul, gIsN, gNotN, Dl.isNon, gIx, gSl, gLen, gAbs, gInt1, gMax2, gMin2, gTuple, gList, gIsi, atI_0, atI_1, atI_2, atI_m1,
    List.getElem?_cons_zero, List.getElem?_cons_succ, List.set_cons_zero, List.set_cons_succ, List.cons_append, List.nil_append, List.append_nil, List.replicate, List.length_cons, List.length_nil, List.map_cons, List.map_nil, Nat.reduceAdd, Nat.reduceSub, Nat.add_one_sub_one,
    true_and, and_true, if_true, if_false, Bool.false_eq_true, Bool.not_true, Bool.not_false, reduceIte, ite_true, ite_false])
local macro_rules | `(tactic| walk_at "lb") => `(tactic| simp (config := { maxSteps := 400000 }) only [lcBody, wipeD, back, Option.getD_some, wSeq, wIfS, wAnd, wOr, wNot, wRet, wDrop, wNext, wBrk, wCnt, wAndV, wOrV, wNotV, wB, wIf, wCB, wArgs, wVar, wC, wTup, wLst, wOp, wChain, wNeg, wSl, wP, wNoP, wSet, wPar, wAsg, wCall, wCallP, wCallN, wApp, wExt, wMt, gApp, gExt, wSetIx, wSeqI, wRng1, wRng2, wZip, wEnum, wFor, withL, lookL, lookD, with2, frz, frzL, prep, put, notLent, kindO, gTp, gNms, gNm, O.d, itemsOf, leave, endsOf, outsOf, clean, wYes,
    gI, gIC, Dl.gSub, gFdiv, gMod, gPow, gLt, gLe, gGt, gGe, gAdd, gMul, gIsN, gNotN, Dl.isNon, gIx, gSl, gLen, gAbs, gInt1, gMax2, gMin2, gTuple, gList, gIsi, atI_0, atI_1, atI_2, atI_m1,
    List.getElem?_cons_zero, List.getElem?_cons_succ, List.set_cons_zero, List.set_cons_succ, List.cons_append, List.nil_append, List.append_nil, List.replicate, List.length_cons, List.length_nil, List.map_cons, List.map_nil, Nat.reduceAdd, Nat.reduceSub, Nat.add_one_sub_one,
    true_and, and_true, if_true, if_false, Bool.false_eq_true, Bool.not_true, Bool.not_false, reduceIte, ite_true, ite_false])
def wr_both_1 : WS := (wIfS (wB (wOp gLt (wOp gIx (wOp gIx (wVar 0) (wVar 3)) (wC (.int 1))) (wOp gIx (wOp gIx (wVar 1) (wVar 4)) (wC (.int 1))))) (wSet 3 (wOp gAdd (wVar 3) (wC (.int 1)))) (wSet 4 (wOp gAdd (wVar 4) (wC (.int 1)))))
def wb_both_2 : WS := (wSeq (wPar 5 6 (wCB gMax2 [(wOp gIx (wOp gIx (wVar 0) (wVar 3)) (wC (.int 0))), (wOp gIx (wOp gIx (wVar 1) (wVar 4)) (wC (.int 0)))]) (wCB gMin2 [(wOp gIx (wOp gIx (wVar 0) (wVar 3)) (wC (.int 1))), (wOp gIx (wOp gIx (wVar 1) (wVar 4)) (wC (.int 1)))]))
  (wSeq (wIfS (wB (wOp gLe (wVar 5) (wVar 6))) (wDrop (wApp 2 (wTup [(wVar 5), (wVar 6)]))) wNext)
  wr_both_1))
def wr_both_3 : WS := (wRet (wCB gTuple [(wVar 2)]))
def w_both : WS := (wSeq (wSet 2 (wLst []))
  (wSeq (wAsg (wTup [(wC (.int 0)), (wC (.int 0))]) (gTp [3, 4]))
  (wSeq (wWhile (wAnd (wB (wOp gLt (wVar 3) (wCB gLen [(wVar 0)]))) (wB (wOp gLt (wVar 4) (wCB gLen [(wVar 1)])))) wb_both_2)
  wr_both_3)))
def w_either : WS := (wRet (wCall C_united [(wOp gAdd (wVar 0) (wVar 1))]))
def wr_gaps_1 : WS := (wSet 4 (wCB gMax2 [(wVar 4), (wOp gAdd (wVar 6) (wC (.int 1)))]))
def wb_gaps_2 : WS := (wSeq (wIfS (wB (wOp gLt (wVar 4) (wVar 5))) (wDrop (wApp 3 (wTup [(wVar 4), (wOp gSub (wVar 5) (wC (.int 1)))]))) wNext)
  wr_gaps_1)
def wr_gaps_3 : WS := (wSeq (wDrop (wApp 3 (wTup [(wVar 4), (wVar 2)])))
  (wRet (wCall C_both [(wCall C_united [(wLc (wSeqI (wVar 3)) (gNm 7) (wB (wOp gLe (wOp gIx (wVar 7) (wC (.int 0))) (wOp gIx (wVar 7) (wC (.int 1))))) (wVar 7) [7])]), (wTup [(wTup [(wVar 1), (wVar 2)])])])))
def w_gaps : WS := (wSeq (wSet 3 (wLst []))
  (wSeq (wSet 4 (wVar 1))
  (wSeq (wFor (wSeqI (wVar 0)) (gTp [5, 6]) wb_gaps_2)
  wr_gaps_3)))
def w_without : WS := (wSeq (wIfS (wB (wOp gEq (wVar 0) (wTup []))) (wRet (wTup [])) wNext)
  (wRet (wCall C_both [(wVar 0), (wCall C_gaps [(wVar 1), (wOp gIx (wOp gIx (wVar 0) (wC (.int 0))) (wC (.int 0))), (wOp gIx (wOp gIx (wVar 0) (wNeg (wC (.int 1)))) (wC (.int 1)))])])))
theorem atI_pair {a : RS} {i : Nat} (h : i < a.length) : atI (a.map pairD) (i : Int) = some (.tup [.int a[i].1, .int a[i].2]) := by
  refine atI_nat (j := i) ?_
  rw [List.getElem?_map, List.getElem?_eq_getElem h]
  rfl
end Lw
namespace Lw
open PySem L2 Dl Rs
local macro_rules | `(tactic| walk_at "dl") => `(tactic| simp (config := { maxSteps := 400000 }) only [wSeq, wIfS, wAnd, wOr, wNot, wRet, wDrop, wNext, wBrk, wCnt, wAndV, wOrV, wNotV, wB, wIf, wCB, wArgs, wVar, wC, wTup, wLst, wOp, wChain, wNeg, wSl, wP, wNoP, wSet, wPar, wAsg, wCall, wCallP, wCallN, wApp, wExt, wMt, gApp, gExt, wSetIx, wSeqI, wRng1, wRng2, wZip, wEnum, wFor, withL, lookL, lookD, with2, frz, frzL, prep, put, notLent, kindO, gTp, gNms, gNm, O.d, itemsOf, leave, endsOf, outsOf, clean, wYes,
    gI, gIC, Dl.gSub, gFdiv, gMod, gPow, gLt, gLe, gGt, gGe, gAdd, gMul, gIsN, gNotN, Dl.isNon, gIx, gSl, gLen, gAbs, gInt1, gMax2, gMin2, gTuple, gList, gIsi, atI_0, atI_1, atI_2, atI_m1,
    List.getElem?_cons_zero, List.getElem?_cons_succ, List.set_cons_zero, List.set_cons_succ, List.cons_append, List.nil_append, List.append_nil, List.replicate, List.length_cons, List.length_nil, List.map_cons, List.map_nil, Nat.reduceAdd, Nat.reduceSub, Nat.add_one_sub_one,
    true_and, and_true, if_true, if_false, Bool.false_eq_true, Bool.not_true, Bool.not_false, reduceIte, ite_true, ite_false])
local macro_rules | `(tactic| walk_at "hs") => `(tactic| simp (config := { maxSteps := 400000 }) only [wSeq, wIfS, wAnd, wOr, wNot, wRet, wDrop, wNext, wBrk, wCnt, wAndV, wOrV, wNotV, wB, wIf, wCB, wArgs, wVar, wC, wTup, wLst, wOp, wChain, wNeg, wSl, wP, wNoP, wSet, wPar, wAsg, wCall, wCallP, wCallN, wApp, wExt, wMt, gApp, gExt, wSetIx, wSeqI, wRng1, wRng2, wZip, wEnum, wFor, withL, lookL, lookD, with2, frz, frzL, prep, put, notLent, kindO, gTp, gNms, gNm, O.d, itemsOf, leave, endsOf, outsOf, clean, wYes,
    gI, gIC, Dl.gSub, gFdiv, gMod, gPow, gLt, gLe, gGt, gGe, gAdd, gMul, gIsN, gNotN, Dl.isNon, gIx, gSl, gLen, gAbs, gInt1, gMax2, gMin2, gTuple, gList, gIsi, atI_0, atI_1, atI_2, atI_m1,
    List.getElem?_cons_zero, List.getElem?_cons_succ, List.set_cons_zero, List.set_cons_succ, List.cons_append, List.nil_append, List.append_nil, List.replicate, List.length_cons, List.length_nil, List.map_cons, List.map_nil, Nat.reduceAdd, Nat.reduceSub, Nat.add_one_sub_one,
    true_and, and_true, if_true, if_false, Bool.false_eq_true, Bool.not_true, Bool.not_false, reduceIte, ite_true, ite_false, *])
structure BI (T : Int → Prop) (A B fs : RS) : Prop where
  cA : Canon A
  cB : Canon B
  cf : Canon fs
  sep : ∀ p ∈ fs, ∀ x, In A x → In B x → p.2 + 1 < x
  cov : ∀ x, T x ↔ In fs x ∨ (In A x ∧ In B x)
theorem BI.swap {T : Int → Prop} {A B fs : RS} (h : BI T A B fs) : BI T B A fs := ⟨h.cB, h.cA, h.cf, fun p hp x a b => h.sep p hp x b a, fun x => by rw [h.cov x, And.comm (a := In A x)]⟩
theorem BI.step {T : Int → Prop} {A B fs : RS} {p q : Int × Int} (h : BI T (p :: A) (q :: B) fs) (hpq : p.2 ≤ q.2) : BI T A (q :: B) (if max p.1 q.1 ≤ p.2 then fs ++ [(max p.1 q.1, p.2)] else fs) := by
  have hp := h.cA.head
  have hq := h.cB.head
  have key : ∀ x, (In (p :: A) x ∧ In (q :: B) x) ↔ (max p.1 q.1 ≤ x ∧ x ≤ p.2) ∨ (In A x ∧ In (q :: B) x) := fun x => by
    rw [in_cons (p := p)]
    constructor
    · rintro ⟨a | a, b⟩
      · refine .inl ⟨?_, a.2⟩
        rcases in_cons.1 b with b | b
        · omega
        · have := h.cB.above b; omega
      · exact .inr ⟨a, b⟩
    · rintro (a | ⟨a, b⟩)
      · exact ⟨.inl ⟨by omega, a.2⟩, in_cons.2 (.inl ⟨by omega, by omega⟩)⟩
      · exact ⟨.inr a, b⟩
  by_cases hl : max p.1 q.1 ≤ p.2
  · rw [if_pos hl]
    refine ⟨h.cA.tail, h.cB, canon_snoc h.cf hl fun r hr => ?_, fun r hr x a b => ?_, fun x => ?_⟩
    · obtain ⟨a, b⟩ := (key (max p.1 q.1)).2 (.inl ⟨Int.le_refl _, hl⟩)
      exact h.sep r hr _ a b
    · rcases List.mem_append.mp hr with hr | hr
      · exact h.sep r hr x (in_cons.2 (.inr a)) b
      · rw [List.mem_singleton.mp hr]
        exact h.cA.above a
    · rw [h.cov x, key x, in_append, in_cons (p := (max p.1 q.1, p.2))]
      constructor
      · rintro (a | a | a)
        · exact .inl (.inl a)
        · exact .inl (.inr (.inl a))
        · exact .inr a
      · rintro ((a | a | a) | a)
        · exact .inl a
        · exact .inr (.inl a)
        · exact absurd a In.nil
        · exact .inr (.inr a)
  · rw [if_neg hl]
    refine ⟨h.cA.tail, h.cB, h.cf, fun r hr x a b => h.sep r hr x (in_cons.2 (.inr a)) b, fun x => ?_⟩
    rw [h.cov x, key x]
    constructor
    · rintro (a | a | a)
      · exact .inl a
      · omega
      · exact .inr a
    · rintro (a | a)
      · exact .inl a
      · exact .inr (.inr a)
theorem drop_at {a : RS} {i : Nat} (h : i < a.length) : a.drop i = a[i] :: a.drop (i + 1) := List.drop_eq_getElem_cons h
def nilOr (s : Dl.Slot) : Prop := s = .nil ∨ ∃ d, s = .fro d
theorem notLent_nilOr {ρ : List Dl.Slot} {i : Nat} {s : Dl.Slot} (e : ρ[i]? = some s) (h : nilOr s) : notLent ρ i := by
  unfold notLent
  rw [e]
  rcases h with rfl | ⟨d, rfl⟩ <;> trivial
def bothI (a b : RS) (m : Nat) (ρ : List Dl.Slot) : Prop := ∃ (i j : Nat) (fs : RS) (x5 x6 : Dl.Slot), m = (a.length - i) + (b.length - j) ∧ i ≤ a.length ∧ j ≤ b.length ∧ BI (fun x => In a x ∧ In b x) (a.drop i) (b.drop j) fs ∧ fs.length ≤ i + j ∧ nilOr x5 ∧ nilOr x6 ∧
  ρ = [.fro (rsD a), .fro (rsD b), .own false (.lst (fs.map pairD)), .fro (.int i), .fro (.int j), x5, x6]
theorem body_both {A B : List D} {i j p1 p2 q1 q2 : Int} {fs : List D} {x5 x6 : Dl.Slot} {KD : DEnds} (hp : atI A i = some (.tup [.int p1, .int p2])) (hq : atI B j = some (.tup [.int q1, .int q2])) (n5 : nilOr x5) (n6 : nilOr x6) (hf : fs.length < 16000000)
    (h : KD.nx [.fro (.tup A), .fro (.tup B), .own false (.lst (if max p1 q1 ≤ min p2 q2 then fs ++ [.tup [.int (max p1 q1), .int (min p2 q2)]] else fs)), .fro (.int (if p2 < q2 then i + 1 else i)), .fro (.int (if p2 < q2 then j else j + 1)), .fro (.int (max p1 q1)), .fro (.int (min p2 q2))]) :
    wb_both_2 KD [.fro (.tup A), .fro (.tup B), .own false (.lst fs), .fro (.int i), .fro (.int j), x5, x6] := by
  obtain ⟨nx, rt, bk, ct⟩ := KD
  have key : ∀ fs', (nx [.fro (.tup A), .fro (.tup B), .own false (.lst fs'), .fro (.int (if p2 < q2 then i + 1 else i)), .fro (.int (if p2 < q2 then j else j + 1)), .fro (.int (max p1 q1)), .fro (.int (min p2 q2))]) → wr_both_1 ⟨nx, rt, bk, ct⟩ [.fro (.tup A), .fro (.tup B), .own false (.lst fs'), .fro (.int i), .fro (.int j), .fro (.int (max p1 q1)), .fro (.int (min p2 q2))] := fun fs' hn => by
    clear h
    unfold wr_both_1
    walk_at "hs"
    by_cases hlt : p2 < q2
    · rw [if_pos hlt, if_pos hlt] at hn
      rw [if_pos (decide_eq_true hlt)]
      exact hn
    · rw [if_neg hlt, if_neg hlt] at hn
      rw [if_neg (by rw [decide_eq_false hlt]; exact Bool.false_ne_true)]
      exact hn
  replace h : nx _ := h
  generalize hW : wr_both_1 = W at key
  unfold wb_both_2
  rw [hW]
  have h5 : notLent [.fro (.tup A), .fro (.tup B), .own false (.lst fs), .fro (.int i), .fro (.int j), x5, x6] 5 := notLent_nilOr rfl n5
  rcases n5 with rfl | ⟨d5, rfl⟩ <;> rcases n6 with rfl | ⟨d6, rfl⟩ <;> (
    clear h5 hW
    revert h key
    walk_at "hs"
    intro h key
    by_cases hle : max p1 q1 ≤ min p2 q2
    · rw [if_pos hle] at h
      rw [if_pos (decide_eq_true hle)]
      exact ⟨⟨_, _, rfl, rfl⟩, by decide, big' _ hf, key _ h⟩
    · rw [if_neg hle] at h
      rw [if_neg (by rw [decide_eq_false hle]; exact Bool.false_ne_true)]
      exact key _ h)
theorem ok_both (args : List Dl.Slot) (Q : Dl.Slot → List Dl.Slot → Prop) (hl : args.length = 2) (h : C_both args Q) : noOwn args ∧ w_both (endsOf args Q) (args ++ List.replicate (7 - 2) .nil) := by
  obtain ⟨a, b, rfl, ca, cb, la, lb, hq⟩ := h
  refine ⟨noOwn2 _ _, ?_⟩
  unfold w_both
  walk_at "dl"
  refine ⟨Nat.zero_le _, by decide, bothI a b, ⟨_, 0, 0, [], .nil, .nil, rfl, Nat.zero_le _, Nat.zero_le _, ⟨ca, cb, Canon.nil, fun p hp => (nomatch hp), fun x => ⟨.inr, fun z => z.elim (fun z => absurd z In.nil) id⟩⟩, Nat.zero_le _, .inl rfl, .inl rfl, rfl⟩, ?_⟩
  rintro m ρ' ⟨i, j, fs, x5, x6, rfl, hi, hj, I, hf, n5, n6, rfl⟩
  unfold rsD
  walk_at "dl"
  rw [List.length_map, List.length_map]
  have fin : ¬ (i < a.length ∧ j < b.length) → wr_both_3 (endsOf [.fro (rsD a), .fro (rsD b)] Q) [.fro (rsD a), .fro (rsD b), .own false (.lst (fs.map pairD)), .fro (.int i), .fro (.int j), x5, x6] := fun hno => by
    unfold wr_both_3
    walk_at "dl"
    refine hq fs I.cf (by omega) fun x => ?_
    rw [I.cov x]
    refine ⟨.inl, fun z => z.elim id fun z => ?_⟩
    by_cases h1 : i < a.length
    · have e : b.drop j = [] := List.drop_eq_nil_of_le (by omega)
      rw [e] at z
      exact absurd z.2 In.nil
    · have e : a.drop i = [] := List.drop_eq_nil_of_le (by omega)
      rw [e] at z
      exact absurd z.1 In.nil
  by_cases h1 : i < a.length
  · rw [if_pos (decide_eq_true (Int.ofNat_lt.mpr h1))]
    by_cases h2 : j < b.length
    · rw [if_pos (decide_eq_true (Int.ofNat_lt.mpr h2))]
      have ea := drop_at h1
      have eb := drop_at h2
      rw [ea, eb] at I
      refine body_both (atI_pair h1) (atI_pair h2) n5 n6 (by rw [List.length_map]; omega) ?_
      generalize a[i] = p at I ea
      generalize b[j] = q at I eb
      show ∃ m', m' < _ ∧ bothI a b m' _
      by_cases hlt : p.2 < q.2
      · rw [if_pos hlt, if_pos hlt]
        have I' := I.step (Int.le_of_lt hlt)
        have em : min p.2 q.2 = p.2 := Int.min_eq_left (Int.le_of_lt hlt)
        rw [em]
        rw [← eb] at I'
        refine ⟨(a.length - (i + 1)) + (b.length - j), by omega, i + 1, j, _, .fro (.int (max p.1 q.1)), .fro (.int p.2), rfl, h1, hj, I', ?_, .inr ⟨_, rfl⟩, .inr ⟨_, rfl⟩, ?_⟩
        · split
          · rw [List.length_append, List.length_singleton]; omega
          · omega
        · split
          · rw [List.map_append]; rfl
          · rfl
      · rw [if_neg hlt, if_neg hlt]
        have I' := (I.swap.step (Int.not_lt.mp hlt)).swap
        have em : min p.2 q.2 = q.2 := Int.min_eq_right (Int.not_lt.mp hlt)
        rw [em, Int.max_comm p.1]
        rw [← ea] at I'
        refine ⟨(a.length - i) + (b.length - (j + 1)), by omega, i, j + 1, _, .fro (.int (max q.1 p.1)), .fro (.int q.2), rfl, hi, h2, I', ?_, .inr ⟨_, rfl⟩, .inr ⟨_, rfl⟩, ?_⟩
        · split
          · rw [List.length_append, List.length_singleton]; omega
          · omega
        · split
          · rw [List.map_append]; rfl
          · rfl
    · rw [if_neg (by rw [decide_eq_false (fun z => h2 (Int.ofNat_lt.mp z))]; exact Bool.false_ne_true)]
      exact fin fun z => h2 z.2
  · rw [if_neg (by rw [decide_eq_false (fun z => h1 (Int.ofNat_lt.mp z))]; exact Bool.false_ne_true)]
    exact fin fun z => h1 z.1
end Lw
namespace Lw
open PySem L2 Dl Rs
local macro_rules | `(tactic| walk_at "dl") => `(tactic| simp (config := { maxSteps := 400000 }) only [wSeq, wIfS, wAnd, wOr, wNot, wRet, wDrop, wNext, wBrk, wCnt, wAndV, wOrV, wNotV, wB, wIf, wCB, wArgs, wVar, wC, wTup, wLst, wOp, wChain, wNeg, wSl, wP, wNoP, wSet, wPar, wAsg, wCall, wCallP, wCallN, wApp, wExt, wMt, gApp, gExt, wSetIx, wSeqI, wRng1, wRng2, wZip, wEnum, wFor, withL, lookL, lookD, with2, frz, frzL, prep, put, notLent, kindO, gTp, gNms, gNm, O.d, itemsOf, leave, endsOf, outsOf, clean, wYes,
    gI, gIC, Dl.gSub, gFdiv, gMod, gPow, gLt, gLe, gGt, gGe, gAdd, gMul, gIsN, gNotN, Dl.isNon, gIx, gSl, gLen, gAbs, gInt1, gMax2, gMin2, gTuple, gList, gIsi, atI_0, atI_1, atI_2, atI_m1,
    List.getElem?_cons_zero, List.getElem?_cons_succ, List.set_cons_zero, List.set_cons_succ, List.cons_append, List.nil_append, List.append_nil, List.replicate, List.length_cons, List.length_nil, List.map_cons, List.map_nil, Nat.reduceAdd, Nat.reduceSub, Nat.add_one_sub_one,
    true_and, and_true, if_true, if_false, Bool.false_eq_true, Bool.not_true, Bool.not_false, reduceIte, ite_true, ite_false])
local macro_rules | `(tactic| walk_at "lb") => `(tactic| simp (config := { maxSteps := 400000 }) only [lcBody, wipeD, back, Option.getD_some, wSeq, wIfS, wAnd, wOr, wNot, wRet, wDrop, wNext, wBrk, wCnt, wAndV, wOrV, wNotV, wB, wIf, wCB, wArgs, wVar, wC, wTup, wLst, wOp, wChain, wNeg, wSl, wP, wNoP, wSet, wPar, wAsg, wCall, wCallP, wCallN, wApp, wExt, wMt, gApp, gExt, wSetIx, wSeqI, wRng1, wRng2, wZip, wEnum, wFor, withL, lookL, lookD, with2, frz, frzL, prep, put, notLent, kindO, gTp, gNms, gNm, O.d, itemsOf, leave, endsOf, outsOf, clean, wYes,
    gI, gIC, Dl.gSub, gFdiv, gMod, gPow, gLt, gLe, gGt, gGe, gAdd, gMul, gIsN, gNotN, Dl.isNon, gIx, gSl, gLen, gAbs, gInt1, gMax2, gMin2, gTuple, gList, gIsi, atI_0, atI_1, atI_2, atI_m1,
    List.getElem?_cons_zero, List.getElem?_cons_succ, List.set_cons_zero, List.set_cons_succ, List.cons_append, List.nil_append, List.append_nil, List.replicate, List.length_cons, List.length_nil, List.map_cons, List.map_nil, Nat.reduceAdd, Nat.reduceSub, Nat.add_one_sub_one,
    true_and, and_true, if_true, if_false, Bool.false_eq_true, Bool.not_true, Bool.not_false, reduceIte, ite_true, ite_false])
theorem ok_append {a b : RS} (ha : Ok a) (hb : Ok b) : Ok (a ++ b) := fun p hp => (List.mem_append.mp hp).elim (ha p) (hb p)
theorem ok_either (args : List Dl.Slot) (Q : Dl.Slot → List Dl.Slot → Prop) (hl : args.length = 2) (h : C_either args Q) : noOwn args ∧ w_either (endsOf args Q) (args ++ List.replicate (2 - 2) .nil) := by
  obtain ⟨a, b, rfl, oa, ob, la, lb, hq⟩ := h
  refine ⟨noOwn2 _ _, ?_⟩
  unfold w_either rsD
  walk_at "dl"
  rw [← List.map_append]
  refine ⟨by rw [List.length_map, List.length_map]; exact big _ (by omega), a ++ b, .inr rfl, ok_append oa ob, by rw [List.length_append]; omega, fun rs c n i => ?_⟩
  walk_at "dl"
  refine hq rs c (by rw [List.length_append] at n; exact n) fun x => ?_
  rw [i x, in_append]
structure GI (lo s : Int) (done fs : RS) : Prop where
  ge : lo ≤ s
  ok : Ok fs
  cov : ∀ x, lo ≤ x → x < s → (In fs x ↔ ¬ In done x)
  out : ∀ x, In fs x → lo ≤ x ∧ x < s
  below : ∀ x, In done x → x < s
theorem GI.step {lo s f l : Int} {done fs : RS} (h : GI lo s done fs) (hfl : f ≤ l) (hb : ∀ x, In done x → x < f) (hs0 : s = lo ∨ s ≤ f) : GI lo (max s (l + 1)) (done ++ [(f, l)]) (if s < f then fs ++ [(s, f - 1)] else fs) := by
  have hd : ∀ x, In (done ++ [(f, l)]) x ↔ In done x ∨ (f ≤ x ∧ x ≤ l) := fun x => by
    rw [in_append, in_cons (p := (f, l))]
    exact ⟨fun z => z.elim .inl fun z => z.elim .inr fun z => absurd z In.nil, fun z => z.elim .inl fun z => .inr (.inl z)⟩
  have hi : ∀ x, In (if s < f then fs ++ [(s, f - 1)] else fs) x ↔ In fs x ∨ (s ≤ x ∧ x < f) := fun x => by
    by_cases hs : s < f
    · rw [if_pos hs, in_append, in_cons (p := (s, f - 1))]
      constructor
      · rintro (z | z | z)
        · exact .inl z
        · have z1 : s ≤ x := z.1
          have z2 : x ≤ f - 1 := z.2
          exact .inr ⟨z1, by omega⟩
        · exact absurd z In.nil
      · rintro (z | z)
        · exact .inl z
        · exact .inr (.inl ⟨z.1, show x ≤ f - 1 by omega⟩)
    · rw [if_neg hs]
      exact ⟨.inl, fun z => z.elim id fun z => by omega⟩
  refine ⟨by have := h.ge; omega, ?_, fun x h1 h2 => ?_, fun x hx => ?_, fun x hx => ?_⟩
  · by_cases hs : s < f
    · rw [if_pos hs]
      refine ok_append h.ok fun p hp => ?_
      rw [List.mem_singleton.mp hp]
      show s ≤ f - 1
      omega
    · rw [if_neg hs]; exact h.ok
  · rw [hi x, hd x]
    by_cases hx : x < s
    · have := h.cov x h1 hx
      constructor
      · rintro (z | z)
        · rintro (w | w)
          · exact this.1 z w
          · have := h.out x z
            omega
        · omega
      · intro z
        exact .inl (this.2 fun w => z (.inl w))
    · constructor
      · rintro (z | z)
        · have := h.out x z; omega
        · rintro (w | w)
          · have := hb x w
            have := h.below x w
            omega
          · omega
      · intro z
        refine .inr ⟨by omega, ?_⟩
        by_cases hfx : x < f
        · exact hfx
        · exact absurd (.inr ⟨by omega, by omega⟩) z
  · have hge := h.ge
    rcases (hi x).1 hx with z | z
    · have := h.out x z; omega
    · omega
  · rcases (hd x).1 hx with z | z
    · have := h.below x z; omega
    · omega
theorem gTp2 {ρ : List Dl.Slot} {i j : Nat} {a b : D} {k : List Dl.Slot → Prop} (h1 : notLent ρ i) (h2 : notLent ρ j) (hij : i ≠ j) (h : k ((ρ.set i (.fro a)).set j (.fro b))) : gTp [i, j] (.tup [a, b]) ρ k := by
  refine ⟨h1, ?_, h⟩
  unfold notLent at h2 ⊢
  rw [List.getElem?_set_ne hij]
  exact h2
theorem loop_gaps (KD : DEnds) (a0 : Dl.Slot) (lo hi : Int) : ∀ (qs done fs : RS) (s : Int) (x5 x6 : Dl.Slot), GI lo s done fs → Canon qs → (∀ q ∈ qs, ∀ x, In done x → x < q.1) → (∀ q ∈ qs, s = lo ∨ s ≤ q.1) → nilOr x5 → nilOr x6 → fs.length + qs.length < 16000000 →
    (∀ (fs' : RS) (s' : Int) (x5' x6' : Dl.Slot), GI lo s' (done ++ qs) fs' → fs'.length ≤ fs.length + qs.length → nilOr x5' → nilOr x6' → KD.nx [a0, .fro (.int lo), .fro (.int hi), .own false (.lst (fs'.map pairD)), .fro (.int s'), x5', x6', .nil]) →
    loop (gTp [5, 6]) wb_gaps_2 KD (qs.map pairD) [a0, .fro (.int lo), .fro (.int hi), .own false (.lst (fs.map pairD)), .fro (.int s), x5, x6, .nil]
  | [], done, fs, s, x5, x6, hG, _, _, _, n5, n6, _, hk => hk fs s x5 x6 (by rw [List.append_nil]; exact hG) (by simp) n5 n6
  | (f, l) :: qs, done, fs, s, x5, x6, hG, hc, hb, hs, n5, n6, hn, hk => by
    have hfl : f ≤ l := hc.head
    have G1 := hG.step hfl (hb (f, l) (by simp)) (hs (f, l) (by simp))
    have hgap := (List.pairwise_cons.mp hc.gap).1
    rw [List.length_cons] at hn hk
    rw [List.map_cons, loop_cons, pairD_eq]
    refine gTp2 (notLent_nilOr rfl n5) (notLent_nilOr rfl n6) (by decide) ?_
    have ih : ∀ fs1 : RS, GI lo (max s (l + 1)) (done ++ [(f, l)]) fs1 → fs1.length ≤ fs.length + 1 → loop (gTp [5, 6]) wb_gaps_2 KD (qs.map pairD) [a0, .fro (.int lo), .fro (.int hi), .own false (.lst (fs1.map pairD)), .fro (.int (max s (l + 1))), .fro (.int f), .fro (.int l), .nil] := fun fs1 G2 hl1 => by
      refine loop_gaps KD a0 lo hi qs (done ++ [(f, l)]) fs1 _ _ _ G2 hc.tail (fun q hq x hx => ?_) (fun q hq => ?_) (.inr ⟨_, rfl⟩) (.inr ⟨_, rfl⟩) (by omega) fun fs' s' x5' x6' g n m5 m6 => hk fs' s' x5' x6' (by rw [List.append_assoc] at g; exact g) (by omega) m5 m6
      · have h2 := hgap q hq
        have h2 : l + 1 < q.1 := h2
        rcases in_append.1 hx with z | z
        · exact hb q (List.mem_cons_of_mem _ hq) x z
        · rcases in_cons.1 z with z | z
          · have z2 : x ≤ l := z.2
            omega
          · exact absurd z In.nil
      · have h2 := hgap q hq
        have h2 : l + 1 < q.1 := h2
        have := hs q (List.mem_cons_of_mem _ hq)
        omega
    generalize hL : loop (gTp [5, 6]) wb_gaps_2 KD (qs.map pairD) = L at ih ⊢
    unfold wb_gaps_2 wr_gaps_1
    walk_at "dl"
    by_cases hsf : s < f
    · rw [if_pos (decide_eq_true hsf)]
      rw [if_pos hsf] at G1
      refine ⟨⟨_, _, rfl, rfl⟩, by decide, by rw [List.length_map]; exact big' _ (by omega), ?_⟩
      have em : fs.map pairD ++ [D.tup [D.int s, D.int (f - 1)]] = (fs ++ [(s, f - 1)]).map pairD := by rw [List.map_append]; rfl
      rw [em]
      exact ih _ G1 (by rw [List.length_append, List.length_singleton]; omega)
    · rw [if_neg (by rw [decide_eq_false hsf]; exact Bool.false_ne_true)]
      rw [if_neg hsf] at G1
      exact ih _ G1 (by omega)
theorem lcl_sel {g : WG} {t : WT} {e : WE} {vs : List Nat} {Q : List D → List Dl.Slot → Prop} {ρ : List Dl.Slot} {f : D → D} {c : D → Bool} {P : D → Prop} (n : Nat) (hn : n ≤ 15000000)
    (step : ∀ d, P d → ∀ (k1 : D → List Dl.Slot → Prop) (k0 : List Dl.Slot → Prop), (if c d = true then k1 (f d) ρ else k0 ρ) → g d (wipeD ρ vs) (lcBody t e ρ vs k1 k0)) :
    ∀ (ds acc : List D), (∀ d ∈ ds, P d) → ds.length + acc.length ≤ n → Q (acc ++ (ds.filter c).map f) ρ → lcl g t e vs Q ds ρ acc
  | [], acc, _, _, hq => by rw [List.filter_nil, List.map_nil, List.append_nil] at hq; exact hq
  | d :: ds, acc, hP, hl, hq => by
    rw [List.length_cons] at hl
    refine step d (hP d (by simp)) _ _ ?_
    by_cases hc : c d = true
    · rw [if_pos hc]
      refine ⟨big' _ (by omega), lcl_sel n hn step ds _ (fun x hx => hP x (List.mem_cons_of_mem _ hx)) (by rw [List.length_append, List.length_singleton]; omega) ?_⟩
      rw [List.filter_cons_of_pos hc] at hq
      rw [List.append_assoc]
      exact hq
    · rw [if_neg hc]
      refine lcl_sel n hn step ds _ (fun x hx => hP x (List.mem_cons_of_mem _ hx)) (by omega) ?_
      rw [List.filter_cons_of_neg hc] at hq
      exact hq
def full (rs : RS) : RS := rs.filter fun p => decide (p.1 ≤ p.2)
theorem full_ok (rs : RS) : Ok (full rs) := fun p hp => of_decide_eq_true (List.mem_filter.mp hp).2
theorem in_full (rs : RS) (x : Int) : In (full rs) x ↔ In rs x := ⟨fun ⟨p, h, z⟩ => ⟨p, (List.mem_filter.mp h).1, z⟩, fun ⟨p, h, z⟩ => ⟨p, List.mem_filter.mpr ⟨h, decide_eq_true (Int.le_trans z.1 z.2)⟩, z⟩⟩
def fullD : D → Bool
  | .tup [.int a, .int b] => decide (a ≤ b)
  | _ => false
theorem filter_full (rs : RS) : (rs.map pairD).filter fullD = (full rs).map pairD := by
  rw [List.filter_map]; rfl
theorem ok_gaps (args : List Dl.Slot) (Q : Dl.Slot → List Dl.Slot → Prop) (hl : args.length = 3) (h : C_gaps args Q) : noOwn args ∧ w_gaps (endsOf args Q) (args ++ List.replicate (8 - 3) .nil) := by
  obtain ⟨a, lo, hi, rfl, ca, hle, la, hq⟩ := h
  refine ⟨noOwn3 _ _ _, ?_⟩
  unfold w_gaps
  unfold rsD at hq ⊢
  walk_at "dl"
  refine ⟨Nat.zero_le _, ?_⟩
  refine loop_gaps _ _ lo hi a [] [] lo .nil .nil ⟨Int.le_refl _, fun p hp => (nomatch hp), fun x h1 h2 => by omega, fun x hx => absurd hx In.nil, fun x hx => absurd hx In.nil⟩ ca (fun q _ x hx => absurd hx In.nil) (fun q _ => .inl rfl) (.inl rfl) (.inl rfl) (by rw [List.length_nil]; omega) fun fs s x5 x6 g n n5 n6 => ?_
  rw [List.nil_append] at g
  rw [List.length_nil, Nat.zero_add] at n
  dsimp only
  unfold wr_gaps_3 wLc
  walk_at "dl"
  refine ⟨⟨_, _, rfl, rfl⟩, by decide, by rw [List.length_map]; exact big' _ (by omega), ?_⟩
  have em : fs.map pairD ++ [D.tup [D.int s, D.int hi]] = (fs ++ [(s, hi)]).map pairD := by rw [List.map_append]; rfl
  rw [em]
  generalize hgs : fs ++ [(s, hi)] = gs
  have hgl : gs.length ≤ a.length + 1 := by rw [← hgs, List.length_append, List.length_singleton]; omega
  have hP : ∀ d ∈ gs.map pairD, ∃ p : Int × Int, d = pairD p := fun d hd => by
    obtain ⟨p, _, rfl⟩ := List.mem_map.mp hd
    exact ⟨p, rfl⟩
  have hin : ∀ x, (lo ≤ x ∧ x ≤ hi) → (In gs x ↔ ¬ In a x) := fun x hx => by
    rw [← hgs, in_append, in_cons (p := (s, hi))]
    by_cases hs : x < s
    · rw [g.cov x hx.1 hs]
      refine ⟨fun z => z.elim id fun z => ?_, .inl⟩
      rcases z with z | z
      · have z1 : s ≤ x := z.1
        omega
      · exact absurd z In.nil
    · refine ⟨fun _ w => ?_, fun _ => .inr (.inl ⟨show s ≤ x by omega, hx.2⟩)⟩
      have := g.below x w
      omega
  refine lcl_sel (f := id) (c := fullD) (P := fun d => ∃ p : Int × Int, d = pairD p) 1000000 (by decide) (fun d hd k1 k0 hk => ?_) _ [] hP (by simp only [List.length_map, List.length_nil]; omega) ?_
  · obtain ⟨p, rfl⟩ := hd
    unfold pairD at hk ⊢
    rcases n5 with rfl | ⟨d5, rfl⟩ <;> rcases n6 with rfl | ⟨d6, rfl⟩ <;> (
      walk_at "lb"
      exact hk)
  · rw [List.nil_append, List.map_id, filter_full]
    refine ⟨full gs, .inl rfl, full_ok gs, Nat.le_trans (List.length_filter_le _ _) (by omega), fun rs c n1 i1 => ?_⟩
    walk_at "dl"
    refine ⟨by decide, by decide, rs, [(lo, hi)], rfl, c, ⟨fun p hp => by rw [List.mem_singleton.mp hp]; exact hle, by simp⟩, ?_, show 1 ≤ 1000000 by decide, fun rs2 c2 n2 i2 => ?_⟩
    · have := List.length_filter_le (fun p : Int × Int => decide (p.1 ≤ p.2)) gs
      unfold full at n1
      omega
    · walk_at "dl"
      have h3 := List.length_filter_le (fun p : Int × Int => decide (p.1 ≤ p.2)) gs
      unfold full at n1
      refine hq rs2 c2 (by rw [List.length_singleton] at n2; omega) fun x => ?_
      rw [i2 x, i1 x, in_full, in_cons (p := (lo, hi))]
      constructor
      · rintro ⟨z1, z2 | z2⟩
        · exact ⟨z2, (hin x z2).1 z1⟩
        · exact absurd z2 In.nil
      · rintro ⟨z1, z2⟩
        exact ⟨(hin x z1).2 z2, .inl z1⟩
end Lw
namespace Lw
open PySem L2 Dl Rs
local macro_rules | `(tactic| walk_at "dl") => `(tactic| simp (config := { maxSteps := 400000 }) only [wSeq, wIfS, wAnd, wOr, wNot, wRet, wDrop, wNext, wBrk, wCnt, wAndV, wOrV, wNotV, wB, wIf, wCB, wArgs, wVar, wC, wTup, wLst, wOp, wChain, wNeg, wSl, wP, wNoP, wSet, wPar, wAsg, wCall, wCallP, wCallN, wApp, wExt, wMt, gApp, gExt, wSetIx, wSeqI, wRng1, wRng2, wZip, wEnum, wFor, withL, lookL, lookD, with2, frz, frzL, prep, put, notLent, kindO, gTp, gNms, gNm, O.d, itemsOf, leave, endsOf, outsOf, clean, wYes,
    gI, gIC, Dl.gSub, gFdiv, gMod, gPow, gLt, gLe, gGt, gGe, gAdd, gMul, gIsN, gNotN, Dl.isNon, gIx, gSl, gLen, gAbs, gInt1, gMax2, gMin2, gTuple, gList, gIsi, atI_0, atI_1, atI_2, atI_m1,
    List.getElem?_cons_zero, List.getElem?_cons_succ, List.set_cons_zero, List.set_cons_succ, List.cons_append, List.nil_append, List.append_nil, List.replicate, List.length_cons, List.length_nil, List.map_cons, List.map_nil, Nat.reduceAdd, Nat.reduceSub, Nat.add_one_sub_one,
    true_and, and_true, if_true, if_false, Bool.false_eq_true, Bool.not_true, Bool.not_false, reduceIte, ite_true, ite_false])
local macro_rules | `(tactic| walk_at "hs") => `(tactic| simp (config := { maxSteps := 400000 }) only [wSeq, wIfS, wAnd, wOr, wNot, wRet, wDrop, wNext, wBrk, wCnt, wAndV, wOrV, wNotV, wB, wIf, wCB, wArgs, wVar, wC, wTup, wLst, wOp, wChain, wNeg, wSl, wP, wNoP, wSet, wPar, wAsg, wCall, wCallP, wCallN, wApp, wExt, wMt, gApp, gExt, wSetIx, wSeqI, wRng1, wRng2, wZip, wEnum, wFor, withL, lookL, lookD, with2, frz, frzL, prep, put, notLent, kindO, gTp, gNms, gNm, O.d, itemsOf, leave, endsOf, outsOf, clean, wYes,
    gI, gIC, Dl.gSub, gFdiv, gMod, gPow, gLt, gLe, gGt, gGe, gAdd, gMul, gIsN, gNotN, Dl.isNon, gIx, gSl, gLen, gAbs, gInt1, gMax2, gMin2, gTuple, gList, gIsi, atI_0, atI_1, atI_2, atI_m1,
    List.getElem?_cons_zero, List.getElem?_cons_succ, List.set_cons_zero, List.set_cons_succ, List.cons_append, List.nil_append, List.append_nil, List.replicate, List.length_cons, List.length_nil, List.map_cons, List.map_nil, Nat.reduceAdd, Nat.reduceSub, Nat.add_one_sub_one,
    true_and, and_true, if_true, if_false, Bool.false_eq_true, Bool.not_true, Bool.not_false, reduceIte, ite_true, ite_false, *])
theorem without_go {a b : RS} {p1 p2 q1 q2 : Int} {KD : DEnds} (h0 : atI (a.map pairD) 0 = some (.tup [.int p1, .int p2])) (h1 : atI (a.map pairD) (-1) = some (.tup [.int q1, .int q2]))
    (h : C_gaps [.fro (rsD b), .fro (.int p1), .fro (.int q2)] fun s _ => ∃ d, s = .fro d ∧ C_both [.fro (.tup (a.map pairD)), .fro d] fun s _ => ∃ d, s = .fro d ∧ KD.rt s [.fro (.tup (a.map pairD)), .fro (rsD b)]) :
    wRet (wCall C_both [(wVar 0), (wCall C_gaps [(wVar 1), (wOp gIx (wOp gIx (wVar 0) (wC (.int 0))) (wC (.int 0))), (wOp gIx (wOp gIx (wVar 0) (wNeg (wC (.int 1)))) (wC (.int 1)))])]) KD [.fro (.tup (a.map pairD)), .fro (rsD b)] := by
  revert h
  walk_at "hs"
  rintro ⟨b', lo, hi, e, cb, hle, lb, hq⟩
  refine ⟨b', lo, hi, e, cb, hle, lb, fun rs c n i => ?_⟩
  obtain ⟨d, hd, a1, b1, e1, ca1, cb1, la1, lb1, hq1⟩ := hq rs c n i
  cases hd
  walk_at "dl"
  refine ⟨a1, b1, e1, ca1, cb1, la1, lb1, fun rs2 c2 n2 i2 => ?_⟩
  obtain ⟨d2, hd2, hq2⟩ := hq1 rs2 c2 n2 i2
  cases hd2
  walk_at "dl"
  exact hq2
theorem ends_of_canon {a : RS} (h : Canon a) (hn : a ≠ []) : ∃ p q : Int × Int, atI (a.map pairD) 0 = some (.tup [.int p.1, .int p.2]) ∧ atI (a.map pairD) (-1) = some (.tup [.int q.1, .int q.2]) ∧ p.1 ≤ q.2 ∧ ∀ x, In a x → p.1 ≤ x ∧ x ≤ q.2 := by
  rcases List.eq_nil_or_concat a with rfl | ⟨as, q, rfl⟩
  · exact absurd rfl hn
  have hx2 : ∀ x, In (as.concat q) x → x ≤ q.2 := fun x hx => by
    rw [List.concat_eq_append] at hx h
    rcases in_append.1 hx with z | z
    · obtain ⟨r, hr, _, z2⟩ := z
      have := (List.pairwise_append.mp h.gap).2.2 r hr q (by simp)
      unfold Gap at this
      have := h.ok q (by simp)
      omega
    · rcases in_cons.1 z with z | z
      · exact z.2
      · exact absurd z In.nil
  have e1 : atI ((as.concat q).map pairD) (-1) = some (.tup [.int q.1, .int q.2]) := by
    rw [List.concat_eq_append, List.map_append]
    exact atI_m1
  generalize as.concat q = a at h hx2 e1 hn
  match a, h, hx2, e1, hn with
  | p :: a, h, hx2, e1, _ =>
    have hp := h.head
    refine ⟨p, q, by rw [List.map_cons]; exact atI_0, e1, Int.le_trans hp (hx2 p.2 (in_cons.2 (.inl ⟨hp, Int.le_refl _⟩))), fun x hx => ⟨?_, hx2 x hx⟩⟩
    rcases in_cons.1 hx with z | z
    · exact z.1
    · have := h.above z; omega
theorem ok_without (args : List Dl.Slot) (Q : Dl.Slot → List Dl.Slot → Prop) (hl : args.length = 2) (h : C_without args Q) : noOwn args ∧ w_without (endsOf args Q) (args ++ List.replicate (2 - 2) .nil) := by
  obtain ⟨a, b, rfl, ca, cb, la, lb, hq⟩ := h
  refine ⟨noOwn2 _ _, ?_⟩
  unfold w_without
  generalize hW : wRet (wCall _ _) = W
  walk_at "dl"
  have e0 : D.tup [] = rsD [] := rfl
  rw [e0, gEq_rs]
  refine ⟨by decide, ?_⟩
  by_cases hn : a = []
  · subst hn
    walk_at "dl"
    exact ⟨by decide, hq [] Canon.nil (Nat.zero_le _) fun x => ⟨fun z => absurd z In.nil, fun z => absurd z.1 In.nil⟩⟩
  · have hd : decide (a = []) = false := decide_eq_false hn
    rw [hd]
    walk_at "dl"
    subst hW
    obtain ⟨p, q, h0, h1, hpq, hin⟩ := ends_of_canon ca hn
    refine without_go h0 h1 ⟨b, p.1, q.2, rfl, cb, hpq, lb, fun rs c n i => ⟨_, rfl, a, rs, rfl, ca, c, by omega, by omega, fun rs2 c2 n2 i2 => ⟨_, rfl, hq rs2 c2 (by omega) fun x => ?_⟩⟩⟩
    rw [i2 x, i x]
    exact ⟨fun z => ⟨z.1, z.2.2⟩, fun z => ⟨z.1, hin x z.1, z.2⟩⟩
end Lw
namespace Lw
open PySem L2 Dl Rs
local macro_rules | `(tactic| walk_at "dl") => `(tactic| simp (config := { maxSteps := 400000 }) only [wSeq, wIfS, wAnd, wOr, wNot, wRet, wDrop, wNext, wBrk, wCnt, wAndV, wOrV, wNotV, wB, wIf, wCB, wArgs, wVar, wC, wTup, wLst, wOp, wChain, wNeg, wSl, wP, wNoP, wSet, wPar, wAsg, wCall, wCallP, wCallN, wApp, wExt, wMt, gApp, gExt, wSetIx, wSeqI, wRng1, wRng2, wZip, wEnum, wFor, withL, lookL, lookD, with2, frz, frzL, prep, put, notLent, kindO, gTp, gNms, gNm, O.d, itemsOf, leave, endsOf, outsOf, clean, wYes,
    gI, gIC, Dl.gSub, gFdiv, gMod, gPow, gLt, gLe, gGt, gGe, gAdd, gMul, gIsN, gNotN, Dl.isNon, gIx, gSl, gLen, gAbs, gInt1, gMax2, gMin2, gTuple, gList, gIsi, atI_0, atI_1, atI_2, atI_m1,
    List.getElem?_cons_zero, List.getElem?_cons_succ, List.set_cons_zero, List.set_cons_succ, List.cons_append, List.nil_append, List.append_nil, List.replicate, List.length_cons, List.length_nil, List.map_cons, List.map_nil, Nat.reduceAdd, Nat.reduceSub, Nat.add_one_sub_one,
    true_and, and_true, if_true, if_false, Bool.false_eq_true, Bool.not_true, Bool.not_false, reduceIte, ite_true, ite_false])
local macro_rules | `(tactic| walk_at "lb") => `(tactic| simp (config := { maxSteps := 400000 }) only [lcBody, wipeD, back, Option.getD_some, wSeq, wIfS, wAnd, wOr, wNot, wRet, wDrop, wNext, wBrk, wCnt, wAndV, wOrV, wNotV, wB, wIf, wCB, wArgs, wVar, wC, wTup, wLst, wOp, wChain, wNeg, wSl, wP, wNoP, wSet, wPar, wAsg, wCall, wCallP, wCallN, wApp, wExt, wMt, gApp, gExt, wSetIx, wSeqI, wRng1, wRng2, wZip, wEnum, wFor, withL, lookL, lookD, with2, frz, frzL, prep, put, notLent, kindO, gTp, gNms, gNm, O.d, itemsOf, leave, endsOf, outsOf, clean, wYes,
    gI, gIC, Dl.gSub, gFdiv, gMod, gPow, gLt, gLe, gGt, gGe, gAdd, gMul, gIsN, gNotN, Dl.isNon, gIx, gSl, gLen, gAbs, gInt1, gMax2, gMin2, gTuple, gList, gIsi, atI_0, atI_1, atI_2, atI_m1,
    List.getElem?_cons_zero, List.getElem?_cons_succ, List.set_cons_zero, List.set_cons_succ, List.cons_append, List.nil_append, List.append_nil, List.replicate, List.length_cons, List.length_nil, List.map_cons, List.map_nil, Nat.reduceAdd, Nat.reduceSub, Nat.add_one_sub_one,
    true_and, and_true, if_true, if_false, Bool.false_eq_true, Bool.not_true, Bool.not_false, reduceIte, ite_true, ite_false])
theorem rangeD_succ (i : Int) (m : Nat) : rangeD i (m + 1) = .int i :: rangeD (i + 1) m := by
  unfold rangeD
  rw [List.range_succ_eq_map, List.map_cons, List.map_map]
  congr 1
  · congr 1; omega
  · refine List.map_congr_left fun k _ => ?_
    show D.int (i + ((k + 1 : Nat) : Int)) = D.int (i + 1 + (k : Int))
    congr 1
    omega
end Lw
namespace Lw
open PySem L2 Dl Rs
def Pot (n : Int) (o : O) : Prop := ∃ a b c : Int, o = .lst [.int a, .int b, .int c] ∧ 0 ≤ a ∧ 0 ≤ b ∧ b < 2 ^ 62 ∧ 0 ≤ c ∧ c ≤ n
theorem Pot.mono {n m : Int} {o : O} (h : Pot n o) (hn : n ≤ m) : Pot m o := by
  obtain ⟨a, b, c, e, h1, h2, h3, h4, h5⟩ := h
  exact ⟨a, b, c, e, h1, h2, h3, h4, by omega⟩
def C__law_pot : WE := fun args Q => ∃ (ns : List Int) (k : Int), args = [.fro (.arg ns), .fro (.int k)] ∧ 0 ≤ k ∧ k < 1000 ∧ ∀ o, Pot 0 o → Q (.own false o) args
def C__law_draw : WE := fun args Q => ∃ (n : Int) (o : O) (m : Int), args = [.own true o, .fro (.int m)] ∧ Pot n o ∧ n < 8000000 ∧ 0 < m ∧ m < 2 ^ 200 ∧ ∀ r o', 0 ≤ r → r < m → Pot (n + 1) o' → Q (.fro (.int r)) [.own true o', .fro (.int m)]
def C__law_any : WE := fun args Q => ∃ (n : Int) (o : O) (d : D) (ds : List D), args = [.own true o, .fro d] ∧ (d = .lst ds ∨ d = .tup ds) ∧ Pot n o ∧ n < 8000000 ∧ ds ≠ [] ∧ ds.length < 1000000 ∧ ∀ r o', r ∈ ds → Pot (n + 1) o' → Q (.fro r) [.own true o', .fro d]
def Within (lo hi : Int) (rs : RS) : Prop := ∀ p ∈ rs, lo ≤ p.1 ∧ p.2 ≤ hi
def C__law_spans : WE := fun args Q => ∃ (n : Int) (o : O) (most : Nat) (lo hi : Int), args = [.own true o, .fro (.int most), .fro (.int lo), .fro (.int hi)] ∧ Pot n o ∧ n + 2 * most < 7000000 ∧ most ≤ 1000 ∧ lo ≤ hi ∧ -(2 ^ 150) < lo ∧ hi < 2 ^ 150 ∧
  ∀ rs o', Canon rs → rs.length ≤ most → Within lo hi rs → Pot (n + 2 * most + 2) o' → Q (.fro (rsD rs)) [.own true o', .fro (.int most), .fro (.int lo), .fro (.int hi)]
theorem sq_le {c n : Int} (h0 : 0 ≤ c) (h : c ≤ n) : 0 ≤ c * c ∧ c * c ≤ n * n := ⟨Int.mul_nonneg h0 h0, Int.mul_le_mul h h h0 (Int.le_trans h0 h)⟩
theorem mod_in {a m : Int} (h : 0 < m) : 0 ≤ a % m ∧ a % m < m := ⟨Int.emod_nonneg _ (by omega), Int.emod_lt_of_pos _ h⟩
theorem div_W {i j : Int} (h : 0 < j) (hb : j < 2 ^ 200) : CDivW i j := wide_div (b := 200) h (by omega) (by decide) (by decide)
theorem atI_mem {ds : List D} {r : Int} (h0 : 0 ≤ r) (h1 : r < ds.length) : ∃ x, atI ds r = some x ∧ x ∈ ds := by
  obtain ⟨n, rfl⟩ := Int.eq_ofNat_of_zero_le h0
  have h : n < ds.length := by omega
  exact ⟨ds[n], atI_nat (List.getElem?_eq_getElem h), List.getElem_mem h⟩
theorem small {i : Int} {a : Nat} (h0 : 0 ≤ i) (h : i < 2 ^ a) : i.natAbs < 2 ^ a := by
  have e : ((i.natAbs : Nat) : Int) = i := Int.natAbs_of_nonneg h0
  rw [← e] at h
  exact_mod_cast h
theorem powB {i j : Int} (k : Nat) (h : i.natAbs < 2 ^ k) (h0 : 0 ≤ j) (hk : (k : Int) * j ≤ 2 ^ 27) : CPowB i j :=
  .inr ⟨h0, Int.le_trans (Int.mul_le_mul_of_nonneg_right (Int.ofNat_le.mpr (PyProof.Rows.intBits_le h)) h0) hk⟩
theorem mulW {i j : Int} (a b : Nat) (hi : 0 ≤ i) (hj : 0 ≤ j) (ha : i < 2 ^ a) (hb : j < 2 ^ b) (h0 : 0 < a) (h1 : 0 < b) (h : a + b ≤ 1000000) : CMulW i j := wide_mul (small hi ha) (small hj hb) h0 h1 h
theorem bit01 (c : Bool) : (0 : Int) ≤ (if c = true then 1 else 0) ∧ (if c = true then (1 : Int) else 0) < 2 ^ 62 := by cases c <;> decide
theorem ixN_30 : ixN 3 0 = some 0 := rfl
theorem ixN_32 : ixN 3 2 = some 2 := rfl
theorem bump {KD : DEnds} {W : WS} {a b c : Int} {r : List Dl.Slot} {l : Bool} (h : W KD (.own l (.lst [.int a, .int b, .int (c + 1)]) :: r)) : wSeq (wSetIx 0 (wC (.int 2)) (wOp gAdd (wOp gIx (wVar 0) (wC (.int 2))) (wC (.int 1)))) W KD (.own l (.lst [.int a, .int b, .int c]) :: r) :=
  show (∃ b' o', some (Slot.own l (.lst [.int a, .int b, .int c])) = some (Slot.own b' o')) ∧ W KD (.own l (.lst [.int a, .int b, .int (c + 1)]) :: r) from ⟨⟨_, _, rfl⟩, h⟩
theorem noOwnT {o : O} {ds : List D} : noOwn (.own true o :: ds.map .fro) := fun i o' e => by
  cases i with
  | zero => cases e
  | succ i =>
    have e : (ds.map Slot.fro)[i]? = _ := e
    rw [List.getElem?_map] at e
    cases q : ds[i]? with
    | none => rw [q] at e; cases e
    | some d => rw [q] at e; cases e
theorem noOwnT2 {o : O} {d : D} : noOwn [.own true o, .fro d] := noOwnT (ds := [d])
theorem noOwnT1 {o : O} : noOwn [.own true o] := noOwnT (ds := [])
theorem noOwnT4 {o : O} {d e f : D} : noOwn [.own true o, .fro d, .fro e, .fro f] := noOwnT (ds := [d, e, f])
end Lw
namespace Lw
open PySem L2 Dl Rs
local macro_rules | `(tactic| walk_at "dl") => `(tactic| simp (config := { maxSteps := 400000 }) only [wSeq, wIfS, wAnd, wOr, wNot, wRet, wDrop, wNext, wBrk, wCnt, wAndV, wOrV, wNotV, wB, wIf, wCB, wArgs, wVar, wC, wTup, wLst, wOp, wChain, wNeg, wSl, wP, wNoP, wSet, wPar, wAsg, wCall, wCallP, wCallN, wApp, wExt, wMt, gApp, gExt, wSetIx, wSeqI, wRng1, wRng2, wZip, wEnum, wFor, withL, lookL, lookD, with2, frz, frzL, prep, put, notLent, kindO, gTp, gNms, gNm, O.d, itemsOf, leave, endsOf, outsOf, clean, wYes,
    gI, gIC, Dl.gSub, gFdiv, gMod, gPow, gLt, gLe, gGt, gGe, gAdd, gMul, gIsN, gNotN, Dl.isNon, gIx, gSl, gLen, gAbs, gInt1, gMax2, gMin2, gTuple, gList, gIsi, atI_0, atI_1, atI_2, atI_m1, ixN_30, ixN_32,
    List.getElem?_cons_zero, List.getElem?_cons_succ, List.set_cons_zero, List.set_cons_succ, List.cons_append, List.nil_append, List.append_nil, List.replicate, List.length_cons, List.length_nil, List.map_cons, List.map_nil, Nat.reduceAdd, Nat.reduceSub, Nat.add_one_sub_one,
    true_and, and_true, if_true, if_false, Bool.false_eq_true, Bool.not_true, Bool.not_false, reduceIte, ite_true, ite_false])
def wr__law_pot_1 : WS := (wRet (wLst [(wVar 3), (wOp gMod (wCB gInt1 [(wOp gAdd (wOp gAdd (wOp gMul (wOp gMod (wCB gInt1 [(wVar 2)]) (wC (.int 2305843009213693951))) (wC (.int 71993))) (wOp gMul (wOp gMul (wC (.int 9241)) (wVar 1)) (wVar 1))) (wC (.int 53)))]) (wC (.int 2305843009213693921))), (wC (.int 0))]))
def wr__law_pot_2 : WS := (wSeq (wSet 3 (wOp gMul (wOp gMod (wCB gInt1 [(wCB gAbs [(wVar 2)])]) (wOp gPow (wOp gPow (wC (.int 10)) (wC (.int 60))) (wC (.int 5)))) (wCB gInt1 [(wOp gGe (wCB gAbs [(wVar 2)]) (wOp gPow (wC (.int 10)) (wC (.int 18))))])))
  wr__law_pot_1)
def w__law_pot : WS := (wSeq (wSet 2 (wIf (wB (wOp gLt (wVar 1) (wCB gLen [(wVar 0)]))) (wOp gIx (wVar 0) (wVar 1)) (wOp gAdd (wOp gMul (wC (.int 11)) (wVar 1)) (wC (.int 9)))))
  wr__law_pot_2)
def wr__law_draw_1 : WS := (wRet (wVar 2))
def wr__law_draw_2 : WS := (wSeq (wSetIx 0 (wC (.int 0)) (wOp gFdiv (wOp gIx (wVar 0) (wC (.int 0))) (wVar 1)))
  wr__law_draw_1)
def wr__law_draw_3 : WS := (wRet (wOp gMod (wCB gInt1 [(wOp gFdiv (wVar 4) (wC (.int 89)))]) (wVar 1)))
def wr__law_draw_4 : WS := (wSeq (wSet 4 (wOp gMod (wCB gInt1 [(wOp gMul (wVar 4) (wOp gAdd (wOp gMod (wCB gInt1 [(wVar 4)]) (wC (.int 10007))) (wOp gMul (wC (.int 83)) (wOp gIx (wVar 0) (wC (.int 2))))))]) (wC (.int 2305843009213693907))))
  wr__law_draw_3)
def wr__law_draw_5 : WS := (wSeq (wSet 4 (wOp gMod (wCB gInt1 [(wOp gPow (wOp gAdd (wOp gAdd (wOp gIx (wVar 0) (wC (.int 1))) (wOp gMul (wOp gMul (wC (.int 99991)) (wOp gIx (wVar 0) (wC (.int 2)))) (wOp gIx (wVar 0) (wC (.int 2))))) (wC (.int 61))) (wC (.int 3)))]) (wVar 3)))
  wr__law_draw_4)
def wr__law_draw_6 : WS := (wSeq (wSet 3 (wOp gIx (wLst [(wC (.int 2147483647)), (wC (.int 2147483629)), (wC (.int 2147483587)), (wC (.int 2147483579)), (wC (.int 2147483563))]) (wOp gMod (wCB gInt1 [(wOp gIx (wVar 0) (wC (.int 2)))]) (wC (.int 5)))))
  wr__law_draw_5)
def wr__law_draw_7 : WS := (wSeq (wSetIx 0 (wC (.int 2)) (wOp gAdd (wOp gIx (wVar 0) (wC (.int 2))) (wC (.int 1))))
  wr__law_draw_6)
def w__law_draw : WS := (wSeq (wIfS (wB (wOp gGt (wOp gIx (wVar 0) (wC (.int 0))) (wC (.int 0)))) (wSeq (wSet 2 (wOp gMod (wCB gInt1 [(wOp gIx (wVar 0) (wC (.int 0)))]) (wVar 1)))
  wr__law_draw_2) wNext)
  wr__law_draw_7)
def w__law_any : WS := (wRet (wOp gIx (wVar 1) (wCallP C__law_draw 0 [(wCB gLen [(wVar 1)])])))
theorem ok__law_pot (args : List Dl.Slot) (Q : Dl.Slot → List Dl.Slot → Prop) (hl : args.length = 2) (h : C__law_pot args Q) : noOwn args ∧ w__law_pot (endsOf args Q) (args ++ List.replicate (4 - 2) .nil) := by
  obtain ⟨ns, k, rfl, hk, hk2, hq⟩ := h
  refine ⟨noOwn2 _ _, ?_⟩
  have fin : ∀ cell own : Int, 0 ≤ own → wr__law_pot_1 (endsOf [.fro (.arg ns), .fro (.int k)] Q) [.fro (.arg ns), .fro (.int k), .fro (.int cell), .fro (.int own)] := fun cell own ho => by
    unfold wr__law_pot_1
    walk_at "dl"
    refine ⟨by decide, ?_, ?_, ?_, by decide, by decide, hq _ ⟨_, _, _, rfl, ho, ?_, ?_, Int.le_refl _, Int.le_refl _⟩⟩
    · have hx := mod_in (a := cell) (m := 2305843009213693951) (by decide)
      exact mulW 62 62 hx.1 (by decide) (Int.lt_trans hx.2 (by decide)) (by decide) (by decide) (by decide) (by decide)
    · exact mulW 62 62 (by decide) hk (by decide) (by omega) (by decide) (by decide) (by decide)
    · exact mulW 62 62 (by omega) hk (by omega) (by omega) (by decide) (by decide) (by decide)
    · exact (mod_in (by decide)).1
    · exact Int.lt_trans (mod_in (by decide)).2 (by decide)
  have go : ∀ cell : Int, wr__law_pot_2 (endsOf [.fro (.arg ns), .fro (.int k)] Q) [.fro (.arg ns), .fro (.int k), .fro (.int cell), .nil] := fun cell => by
    unfold wr__law_pot_2
    walk_at "dl"
    have h10 : (0 : Int) < (10 ^ Int.toNat 60) ^ Int.toNat 5 := by decide +kernel
    have h11 : (10 ^ Int.toNat 60 : Int) ^ Int.toNat 5 < 2 ^ 1000 := by decide +kernel
    have hx := mod_in (a := if cell < 0 then -cell else cell) h10
    refine ⟨.inl ⟨by decide, by decide, by decide⟩, powB 200 (by decide +kernel) (by decide) (by decide), h10, .inl ⟨by decide, by decide, by decide⟩, ?_, fin cell _ (Int.mul_nonneg hx.1 (bit01 _).1)⟩
    exact mulW 1000 62 hx.1 (bit01 _).1 (Int.lt_trans hx.2 h11) (bit01 _).2 (by decide) (by decide) (by decide)
  unfold w__law_pot
  walk_at "dl"
  by_cases hlt : k < ns.length
  · rw [if_pos (decide_eq_true hlt)]
    obtain ⟨i, rfl⟩ := Int.eq_ofNat_of_zero_le hk
    have hi : i < ns.length := by omega
    have e : atI ns (i : Int) = some ns[i] := atI_nat (List.getElem?_eq_getElem hi)
    rw [e]
    exact go _
  · rw [if_neg (by rw [decide_eq_false hlt]; exact Bool.false_ne_true)]
    exact ⟨mulW 62 62 (by decide) hk (by decide) (by omega) (by decide) (by decide) (by decide), go _⟩
theorem ok__law_draw (args : List Dl.Slot) (Q : Dl.Slot → List Dl.Slot → Prop) (hl : args.length = 2) (h : C__law_draw args Q) : noOwn args ∧ w__law_draw (endsOf args Q) (args ++ List.replicate (5 - 2) .nil) := by
  obtain ⟨n, o, m, rfl, ⟨a, b, c, rfl, ha, hb, hb2, hc, hcn⟩, hn, hm, hm2, hq⟩ := h
  refine ⟨noOwnT2, ?_⟩
  generalize hK : endsOf [.own true (O.lst [D.int a, D.int b, D.int c]), .fro (.int m)] Q = KD
  have hret : ∀ (r : Int) (o' : O) (x2 x3 x4 : Dl.Slot), 0 ≤ r → r < m → Pot (n + 1) o' → KD.rt (.fro (.int r)) [.own true o', .fro (.int m), x2, x3, x4] := fun r o' x2 x3 x4 h0 h1 hp => by
    subst hK
    exact hq r o' h0 h1 hp
  clear hK hq
  have a3 : ∀ (c made : Int) (x2 x3 : Dl.Slot), 0 ≤ c → c ≤ n + 1 → 0 ≤ made → made < 2 ^ 62 → wr__law_draw_3 KD [.own true (.lst [.int a, .int b, .int c]), .fro (.int m), x2, x3, .fro (.int made)] := fun c made x2 x3 hc hcn h0 h1 => by
    unfold wr__law_draw_3
    walk_at "dl"
    have hx := mod_in (a := made / 89) hm
    exact ⟨div_W (by decide) (by decide), hm, hret _ _ _ _ _ hx.1 hx.2 ⟨_, _, _, rfl, ha, hb, hb2, hc, hcn⟩⟩
  have a4 : ∀ (c made : Int) (x2 x3 : Dl.Slot), 0 ≤ c → c ≤ n + 1 → 0 ≤ made → made < 2 ^ 62 → wr__law_draw_4 KD [.own true (.lst [.int a, .int b, .int c]), .fro (.int m), x2, x3, .fro (.int made)] := fun c made x2 x3 hc hcn h0 h1 => by
    unfold wr__law_draw_4
    walk_at "dl"
    have hx := mod_in (a := made) (m := 10007) (by decide)
    refine ⟨by decide, mulW 62 62 (by decide) hc (by decide) (by omega) (by decide) (by decide) (by decide), mulW 62 62 h0 (by omega) h1 (by omega) (by decide) (by decide) (by decide), by decide, a3 c _ _ _ hc hcn (mod_in (by decide)).1 (Int.lt_trans (mod_in (by decide)).2 (by decide))⟩
  have a5 : ∀ (c p : Int), 0 ≤ c → c ≤ n + 1 → 0 < p → p < 2 ^ 62 → wr__law_draw_5 KD [.own true (.lst [.int a, .int b, .int c]), .fro (.int m), .nil, .fro (.int p), .nil] := fun c p hc hcn h0 h1 => by
    unfold wr__law_draw_5
    walk_at "dl"
    have hs := sq_le (n := 8000001) hc (by omega)
    have e : 99991 * c * c = 99991 * (c * c) := Int.mul_assoc _ _ _
    have hx := mod_in (a := (b + 99991 * c * c + 61) ^ Int.toNat 3) h0
    refine ⟨mulW 62 62 (by decide) hc (by decide) (by omega) (by decide) (by decide) (by decide), mulW 62 62 (by omega) hc (by omega) (by omega) (by decide) (by decide) (by decide), .inl ⟨by decide, by decide, ?_⟩, h0, a4 c _ _ _ hc hcn hx.1 (Int.lt_trans hx.2 h1)⟩
    rw [e]
    exact small (a := 64) (by omega) (by omega)
  have a6 : ∀ (c : Int), 0 ≤ c → c ≤ n + 1 → wr__law_draw_6 KD [.own true (.lst [.int a, .int b, .int c]), .fro (.int m), .nil, .nil, .nil] := fun c hc hcn => by
    unfold wr__law_draw_6
    walk_at "dl"
    have hx := mod_in (a := c) (m := 5) (by decide)
    refine ⟨by decide, by decide, ?_⟩
    have five : ∀ r : Int, 0 ≤ r → r < 5 → ∃ p : Int, atI [D.int 2147483647, .int 2147483629, .int 2147483587, .int 2147483579, .int 2147483563] r = some (.int p) ∧ 0 < p ∧ p < 2 ^ 62 := fun r h0 h1 => by
      obtain ⟨i, rfl⟩ := Int.eq_ofNat_of_zero_le h0
      have h : i < 5 := by omega
      match i, h with
      | 0, _ => exact ⟨_, rfl, by decide, by decide⟩
      | 1, _ => exact ⟨_, rfl, by decide, by decide⟩
      | 2, _ => exact ⟨_, rfl, by decide, by decide⟩
      | 3, _ => exact ⟨_, rfl, by decide, by decide⟩
      | 4, _ => exact ⟨_, rfl, by decide, by decide⟩
    obtain ⟨p, e, h1, h2⟩ := five (c % 5) hx.1 hx.2
    rw [e]
    exact a5 c p hc hcn h1 h2
  unfold w__law_draw
  walk_at "dl"
  by_cases hlt : 0 < a
  · rw [if_pos (decide_eq_true hlt)]
    refine ⟨hm, ?_⟩
    unfold wr__law_draw_2
    walk_at "dl"
    refine ⟨div_W hm hm2, ⟨_, _, rfl⟩, ?_⟩
    unfold wr__law_draw_1
    walk_at "dl"
    have hx := mod_in (a := a) hm
    exact hret _ _ _ _ _ hx.1 hx.2 ⟨_, _, _, rfl, Int.ediv_nonneg ha (by omega), hb, hb2, hc, by omega⟩
  · rw [if_neg (by rw [decide_eq_false hlt]; exact Bool.false_ne_true)]
    exact bump (a6 (c + 1) (by omega) (by omega))
theorem ok__law_any (args : List Dl.Slot) (Q : Dl.Slot → List Dl.Slot → Prop) (hl : args.length = 2) (h : C__law_any args Q) : noOwn args ∧ w__law_any (endsOf args Q) (args ++ List.replicate (2 - 2) .nil) := by
  obtain ⟨n, o, d, ds, rfl, hd, hp, hn, hne, hlen, hq⟩ := h
  refine ⟨noOwnT2, ?_⟩
  have hpos : 0 < ds.length := List.length_pos_iff.mpr hne
  unfold w__law_any
  rcases hd with rfl | rfl <;> (
    walk_at "dl"
    refine ⟨⟨_, _, rfl⟩, n, o, _, rfl, hp, hn, by omega, by omega, fun r o' h0 h1 hp' => ?_⟩
    obtain ⟨x, e, hx⟩ := atI_mem h0 h1
    walk_at "dl"
    rw [e]
    exact hq x o' hx hp')
end Lw
namespace Lw
open PySem L2 Dl Rs
local macro_rules | `(tactic| walk_at "dl") => `(tactic| simp (config := { maxSteps := 400000 }) only [wSeq, wIfS, wAnd, wOr, wNot, wRet, wDrop, wNext, wBrk, wCnt, wAndV, wOrV, wNotV, wB, wIf, wCB, wArgs, wVar, wC, wTup, wLst, wOp, wChain, wNeg, wSl, wP, wNoP, wSet, wPar, wAsg, wCall, wCallP, wCallN, wApp, wExt, wMt, gApp, gExt, wSetIx, wSeqI, wRng1, wRng2, wZip, wEnum, wFor, withL, lookL, lookD, with2, frz, frzL, prep, put, notLent, kindO, gTp, gNms, gNm, O.d, itemsOf, leave, endsOf, outsOf, clean, wYes,
    gI, gIC, Dl.gSub, gFdiv, gMod, gPow, gLt, gLe, gGt, gGe, gAdd, gMul, gIsN, gNotN, Dl.isNon, gIx, gSl, gLen, gAbs, gInt1, gMax2, gMin2, gTuple, gList, gIsi, atI_0, atI_1, atI_2, atI_m1, ixN_30, ixN_32,
    List.getElem?_cons_zero, List.getElem?_cons_succ, List.set_cons_zero, List.set_cons_succ, List.cons_append, List.nil_append, List.append_nil, List.replicate, List.length_cons, List.length_nil, List.map_cons, List.map_nil, Nat.reduceAdd, Nat.reduceSub, Nat.add_one_sub_one,
    true_and, and_true, if_true, if_false, Bool.false_eq_true, Bool.not_true, Bool.not_false, reduceIte, ite_true, ite_false])
def wr__law_spans_1 : WS := (wSet 6 (wOp gAdd (wOp gAdd (wVar 8) (wC (.int 2))) (wCallP C__law_any 0 [(wLst [(wC (.int 0)), (wC (.int 0)), (wC (.int 1)), (wC (.int 3)), (wVar 4)])])))
def wr__law_spans_2 : WS := (wIfS (wB (wOp gLe (wVar 8) (wVar 3))) (wSeq (wDrop (wApp 5 (wTup [(wVar 6), (wVar 8)])))
  wr__law_spans_1) wNext)
def wb__law_spans_3 : WS := (wSeq (wSet 8 (wOp gAdd (wVar 6) (wCallP C__law_any 0 [(wLst [(wC (.int 0)), (wC (.int 0)), (wC (.int 1)), (wC (.int 2)), (wC (.int 5)), (wVar 4)])])))
  wr__law_spans_2)
def wr__law_spans_4 : WS := (wRet (wCB gTuple [(wVar 5)]))
def wr__law_spans_5 : WS := (wSeq (wFor (wRng1 [(wCallP C__law_draw 0 [(wOp gAdd (wVar 1) (wC (.int 1)))])]) (gNm 7) wb__law_spans_3)
  wr__law_spans_4)
def wr__law_spans_6 : WS := (wSeq (wPar 5 6 (wLst []) (wOp gAdd (wVar 2) (wCallP C__law_draw 0 [(wOp gAdd (wC (.int 1)) (wOp gFdiv (wOp gSub (wVar 3) (wVar 2)) (wC (.int 2))))])))
  wr__law_spans_5)
def w__law_spans : WS := (wSeq (wSet 4 (wOp gFdiv (wOp gSub (wVar 3) (wVar 2)) (wC (.int 9))))
  wr__law_spans_6)
theorem loop_spans (KD : DEnds) (lo hi wide : Int) (hw : 0 ≤ wide) (most : D) : ∀ (m : Nat) (n : Int) (o : O) (fs : RS) (here : Int) (x7 x8 : Dl.Slot) (i : Int), Pot n o → n + 2 * m < 8000000 → Canon fs → Within lo hi fs → (∀ p ∈ fs, p.2 + 1 < here) → lo ≤ here → fs.length + m ≤ 1000 → nilOr x7 → nilOr x8 →
    (∀ (fs' : RS) (o' : O) (here' : Int) (x7 x8 : Dl.Slot), Canon fs' → Within lo hi fs' → fs'.length ≤ fs.length + m → Pot (n + 2 * m) o' → nilOr x7 → nilOr x8 → KD.nx [.own true o', .fro most, .fro (.int lo), .fro (.int hi), .fro (.int wide), .own false (.lst (fs'.map pairD)), .fro (.int here'), x7, x8]) →
    loop (gNm 7) wb__law_spans_3 KD (rangeD i m) [.own true o, .fro most, .fro (.int lo), .fro (.int hi), .fro (.int wide), .own false (.lst (fs.map pairD)), .fro (.int here), x7, x8]
  | 0, n, o, fs, here, x7, x8, i, hp, _, c, hin, _, _, _, n7, n8, hk => hk fs o here x7 x8 c hin (Nat.le_refl _) (hp.mono (by omega)) n7 n8
  | m + 1, n, o, fs, here, x7, x8, i, hp, hn, c, hin, hg, hlo, hlen, n7, n8, hk => by
    rw [rangeD_succ, loop_cons]
    refine ⟨notLent_nilOr rfl n7, ?_⟩
    have ih := fun (n' : Int) (o' : O) (fs' : RS) (here' : Int) (e' : Int) (hp' : Pot n' o') (hn' : n' ≤ n + 2) (c' : Canon fs') (hin' : Within lo hi fs') (hg' : ∀ p ∈ fs', p.2 + 1 < here') (hlo' : lo ≤ here') (hl' : fs'.length ≤ fs.length + 1) =>
      loop_spans KD lo hi wide hw most m n' o' fs' here' (.fro (.int i)) (.fro (.int e')) (i + 1) hp' (by omega) c' hin' hg' hlo' (by omega) (.inr ⟨_, rfl⟩) (.inr ⟨_, rfl⟩) fun fs2 o2 h2 y7 y8 c2 in2 l2 p2 m7 m8 => hk fs2 o2 h2 y7 y8 c2 in2 (by omega) (p2.mono (by omega)) m7 m8
    generalize hL : loop (gNm 7) wb__law_spans_3 KD (rangeD (i + 1) m) = L at ih ⊢
    generalize hK : (⟨L, KD.rt, KD.nx, L⟩ : DEnds) = K2
    have hKn : K2.nx = L := by subst hK; rfl
    unfold wb__law_spans_3
    walk_at "dl"
    refine ⟨⟨_, _, rfl⟩, by decide, n, o, _, [.int 0, .int 0, .int 1, .int 2, .int 5, .int wide], rfl, .inl rfl, hp, by omega, by simp, show 6 < 1000000 by decide, fun r o1 hr hp1 => ?_⟩
    obtain ⟨z, rfl, hz⟩ : ∃ z : Int, r = .int z ∧ 0 ≤ z := by
      simp only [List.mem_cons, List.not_mem_nil, or_false] at hr
      rcases hr with rfl | rfl | rfl | rfl | rfl | rfl
      · exact ⟨_, rfl, by decide⟩
      · exact ⟨_, rfl, by decide⟩
      · exact ⟨_, rfl, by decide⟩
      · exact ⟨_, rfl, by decide⟩
      · exact ⟨_, rfl, by decide⟩
      · exact ⟨_, rfl, hw⟩
    walk_at "dl"
    refine ⟨by rcases n8 with rfl | ⟨_, rfl⟩ <;> trivial, ?_⟩
    unfold wr__law_spans_2
    walk_at "dl"
    by_cases hle : here + z ≤ hi
    · rw [if_pos (decide_eq_true hle)]
      refine ⟨⟨_, _, rfl, rfl⟩, by decide, by rw [List.length_map]; exact big' _ (by omega), ?_⟩
      unfold wr__law_spans_1
      walk_at "dl"
      refine ⟨⟨_, _, rfl⟩, by decide, n + 1, o1, _, [.int 0, .int 0, .int 1, .int 3, .int wide], rfl, .inl rfl, hp1, by omega, by simp, show 5 < 1000000 by decide, fun r o2 hr hp2 => ?_⟩
      obtain ⟨y, rfl, hy⟩ : ∃ z : Int, r = .int z ∧ 0 ≤ z := by
        simp only [List.mem_cons, List.not_mem_nil, or_false] at hr
        rcases hr with rfl | rfl | rfl | rfl | rfl
        · exact ⟨_, rfl, by decide⟩
        · exact ⟨_, rfl, by decide⟩
        · exact ⟨_, rfl, by decide⟩
        · exact ⟨_, rfl, by decide⟩
        · exact ⟨_, rfl, hw⟩
      walk_at "dl"
      have em : fs.map pairD ++ [D.tup [D.int here, D.int (here + z)]] = (fs ++ [(here, here + z)]).map pairD := by rw [List.map_append]; rfl
      rw [em, hKn]
      refine ih (n + 2) o2 _ _ _ (hp2.mono (by omega)) (Int.le_refl _) (canon_snoc c (show here ≤ here + z by omega) fun q hq => hg q hq) (fun p hp' => ?_) (fun p hp' => ?_) (by omega) (by rw [List.length_append, List.length_singleton]; omega)
      · rcases List.mem_append.mp hp' with h | h
        · exact hin p h
        · rw [List.mem_singleton.mp h]
          exact ⟨hlo, hle⟩
      · rcases List.mem_append.mp hp' with h | h
        · have := hg p h
          omega
        · rw [List.mem_singleton.mp h]
          show here + z + 1 < here + z + 2 + y
          omega
    · rw [if_neg (by rw [decide_eq_false hle]; exact Bool.false_ne_true), hKn]
      exact ih (n + 1) o1 fs here _ hp1 (by omega) c hin hg hlo (by omega)
theorem ok__law_spans (args : List Dl.Slot) (Q : Dl.Slot → List Dl.Slot → Prop) (hl : args.length = 4) (h : C__law_spans args Q) : noOwn args ∧ w__law_spans (endsOf args Q) (args ++ List.replicate (9 - 4) .nil) := by
  obtain ⟨n, o, most, lo, hi, rfl, hp, hn, hm, hle, hlo, hhi, hq⟩ := h
  refine ⟨noOwnT4, ?_⟩
  generalize hK : endsOf [.own true o, .fro (.int most), .fro (.int lo), .fro (.int hi)] Q = KD
  have hret : ∀ (rs : RS) (o' : O) (x4 x5 x6 x7 x8 : Dl.Slot), Canon rs → rs.length ≤ most → Within lo hi rs → Pot (n + 2 * most + 2) o' → KD.rt (.fro (.tup (rs.map pairD))) [.own true o', .fro (.int most), .fro (.int lo), .fro (.int hi), x4, x5, x6, x7, x8] := fun rs o' x4 x5 x6 x7 x8 h0 h1 h2 hp => by
    subst hK
    exact hq rs o' h0 h1 h2 hp
  clear hK hq
  unfold w__law_spans
  walk_at "dl"
  refine ⟨div_W (by decide) (by decide), ?_⟩
  have hw : 0 ≤ (hi - lo) / 9 := Int.ediv_nonneg (by omega) (by decide)
  generalize (hi - lo) / 9 = wide at hw
  unfold wr__law_spans_6
  walk_at "dl"
  have h2 : 0 ≤ (hi - lo) / 2 := Int.ediv_nonneg (by omega) (by decide)
  have h3 : (hi - lo) / 2 ≤ hi - lo := Int.ediv_le_self _ (by omega)
  refine ⟨Nat.zero_le _, ⟨_, _, rfl⟩, div_W (by decide) (by decide), n, o, _, rfl, hp, by omega, by omega, by omega, fun r o1 hr0 hr1 hp1 => ?_⟩
  walk_at "dl"
  unfold wr__law_spans_5
  walk_at "dl"
  refine ⟨⟨_, _, rfl⟩, n + 1, o1, _, rfl, hp1, by omega, by omega, by omega, fun r2 o2 hs0 hs1 hp2 => ?_⟩
  walk_at "dl"
  refine ⟨by omega, by omega, ?_⟩
  refine loop_spans _ lo hi wide hw _ r2.toNat (n + 2) o2 [] _ .nil .nil 0 (hp2.mono (by omega)) (by omega) Canon.nil (fun p hp => (nomatch hp)) (fun p hp => (nomatch hp)) (by omega) (by simp only [List.length_nil]; omega) (.inl rfl) (.inl rfl) fun fs o' here' x7 x8 c hin hl' hp' n7 n8 => ?_
  dsimp only
  unfold wr__law_spans_4
  walk_at "dl"
  exact hret fs o' _ _ _ _ _ c (by simp only [List.length_nil] at hl'; omega) hin (hp'.mono (by omega))
end Lw
namespace Lw
open PySem L2 Dl Rs
theorem inB_iff (rs : RS) (x : Int) : inB rs x = true ↔ In rs x := by
  unfold inB Rs.In
  rw [List.any_eq_true]
  constructor
  · rintro ⟨p, h, e⟩
    rw [Bool.and_eq_true, decide_eq_true_eq, decide_eq_true_eq] at e
    exact ⟨p, h, e⟩
  · rintro ⟨p, h, e⟩
    exact ⟨p, h, by rw [Bool.and_eq_true, decide_eq_true_eq, decide_eq_true_eq]; exact e⟩
theorem spans_ap {n : Int} {o : O} {most : Nat} {m lo hi : Int} {Q : Dl.Slot → List Dl.Slot → Prop} (e : m = most) (hp : Pot n o) (hn : n + 2 * most < 7000000) (hm : most ≤ 1000) (hle : lo ≤ hi) (h1 : -(2 ^ 150) < lo) (h2 : hi < 2 ^ 150)
    (h : ∀ rs o', Canon rs → rs.length ≤ most → Within lo hi rs → Pot (n + 2 * most + 2) o' → Q (.fro (rsD rs)) [.own true o', .fro (.int m), .fro (.int lo), .fro (.int hi)]) : C__law_spans [.own true o, .fro (.int m), .fro (.int lo), .fro (.int hi)] Q := by
  subst e
  exact ⟨n, o, most, lo, hi, rfl, hp, hn, hm, hle, h1, h2, h⟩
end Lw
namespace Lw
open PySem L2 Dl Rs
local macro_rules | `(tactic| walk_at "dl") => `(tactic| simp (config := { maxSteps := 400000 }) only [wSeq, wIfS, wAnd, wOr, wNot, wRet, wDrop, wNext, wBrk, wCnt, wAndV, wOrV, wNotV, wB, wIf, wCB, wArgs, wVar, wC, wTup, wLst, wOp, wChain, wNeg, wSl, wP, wNoP, wSet, wPar, wAsg, wCall, wCallP, wCallN, wApp, wExt, wMt, gApp, gExt, wSetIx, wSeqI, wRng1, wRng2, wZip, wEnum, wFor, withL, lookL, lookD, with2, frz, frzL, prep, put, notLent, kindO, gTp, gNms, gNm, O.d, itemsOf, leave, endsOf, outsOf, clean, wYes, wK, CE.s, wDct0, wDct1, wRev, wRev2, wPop, wSortSet, wParN, wTupAsg, prepL, putL, wEnum2, wCallK, perm, gIsB, gRepr, List.getD_cons_zero, List.getD_cons_succ,
    gI, gIC, Dl.gSub, gFdiv, gMod, gPow, gLt, gLe, gGt, gGe, gAdd, gMul, gIsN, gNotN, Dl.isNon, gIx, gSl, gLen, gAbs, gInt1, gMax2, gMin2, gTuple, gList, gIsi, atI_0, atI_1, atI_2, atI_m1, ixN_30, ixN_32,
    List.getElem?_cons_zero, List.getElem?_cons_succ, List.set_cons_zero, List.set_cons_succ, List.cons_append, List.nil_append, List.append_nil, List.replicate, List.length_cons, List.length_nil, List.map_cons, List.map_nil, Nat.reduceAdd, Nat.reduceSub, Nat.add_one_sub_one,
    true_and, and_true, if_true, if_false, Bool.false_eq_true, Bool.not_true, Bool.not_false, reduceIte, ite_true, ite_false])
local macro_rules | `(tactic| walk_at "lb") => `(tactic| simp (config := { maxSteps := 400000 }) only [lcBody, wipeD, back, Option.getD_some, wSeq, wIfS, wAnd, wOr, wNot, wRet, wDrop, wNext, wBrk, wCnt, wAndV, wOrV, wNotV, wB, wIf, wCB, wArgs, wVar, wC, wTup, wLst, wOp, wChain, wNeg, wSl, wP, wNoP, wSet, wPar, wAsg, wCall, wCallP, wCallN, wApp, wExt, wMt, gApp, gExt, wSetIx, wSeqI, wRng1, wRng2, wZip, wEnum, wFor, withL, lookL, lookD, with2, frz, frzL, prep, put, notLent, kindO, gTp, gNms, gNm, O.d, itemsOf, leave, endsOf, outsOf, clean, wYes, wK, CE.s, wDct0, wDct1, wRev, wRev2, wPop, wSortSet, wParN, wTupAsg, prepL, putL, wEnum2, wCallK, perm, gIsB, gRepr, List.getD_cons_zero, List.getD_cons_succ,
    gI, gIC, Dl.gSub, gFdiv, gMod, gPow, gLt, gLe, gGt, gGe, gAdd, gMul, gIsN, gNotN, Dl.isNon, gIx, gSl, gLen, gAbs, gInt1, gMax2, gMin2, gTuple, gList, gIsi, atI_0, atI_1, atI_2, atI_m1, ixN_30, ixN_32,
    List.getElem?_cons_zero, List.getElem?_cons_succ, List.set_cons_zero, List.set_cons_succ, List.cons_append, List.nil_append, List.append_nil, List.replicate, List.length_cons, List.length_nil, List.map_cons, List.map_nil, Nat.reduceAdd, Nat.reduceSub, Nat.add_one_sub_one,
    true_and, and_true, if_true, if_false, Bool.false_eq_true, Bool.not_true, Bool.not_false, reduceIte, ite_true, ite_false])
end Lw
namespace Lw
open PySem L2 Dl Rs
local macro_rules | `(tactic| walk_at "dl") => `(tactic| simp (config := { maxSteps := 400000 }) only [wSeq, wIfS, wAnd, wOr, wNot, wRet, wDrop, wNext, wBrk, wCnt, wAndV, wOrV, wNotV, wB, wIf, wCB, wArgs, wVar, wC, wTup, wLst, wOp, wChain, wNeg, wSl, wP, wNoP, wSet, wPar, wAsg, wCall, wCallP, wCallN, wApp, wExt, wMt, gApp, gExt, wSetIx, wSeqI, wRng1, wRng2, wZip, wEnum, wFor, withL, lookL, lookD, with2, frz, frzL, prep, put, notLent, kindO, gTp, gNms, gNm, O.d, itemsOf, leave, endsOf, outsOf, clean, wYes, wK, CE.s, wDct0, wDct1, wRev, wRev2, wPop, wSortSet, wParN, wTupAsg, prepL, putL, wEnum2, wCallK, perm, gIsB, gRepr, List.getD_cons_zero, List.getD_cons_succ,
    gI, gIC, Dl.gSub, gFdiv, gMod, gPow, gLt, gLe, gGt, gGe, gAdd, gMul, gIsN, gNotN, Dl.isNon, gIx, gSl, gLen, gAbs, gInt1, gMax2, gMin2, gTuple, gList, gIsi, atI_0, atI_1, atI_2, atI_m1, ixN_30, ixN_32,
    List.getElem?_cons_zero, List.getElem?_cons_succ, List.set_cons_zero, List.set_cons_succ, List.cons_append, List.nil_append, List.append_nil, List.replicate, List.length_cons, List.length_nil, List.map_cons, List.map_nil, Nat.reduceAdd, Nat.reduceSub, Nat.add_one_sub_one,
    true_and, and_true, if_true, if_false, Bool.false_eq_true, Bool.not_true, Bool.not_false, reduceIte, ite_true, ite_false])
local macro_rules | `(tactic| walk_at "lb") => `(tactic| simp (config := { maxSteps := 400000 }) only [lcBody, wipeD, back, Option.getD_some, wSeq, wIfS, wAnd, wOr, wNot, wRet, wDrop, wNext, wBrk, wCnt, wAndV, wOrV, wNotV, wB, wIf, wCB, wArgs, wVar, wC, wTup, wLst, wOp, wChain, wNeg, wSl, wP, wNoP, wSet, wPar, wAsg, wCall, wCallP, wCallN, wApp, wExt, wMt, gApp, gExt, wSetIx, wSeqI, wRng1, wRng2, wZip, wEnum, wFor, withL, lookL, lookD, with2, frz, frzL, prep, put, notLent, kindO, gTp, gNms, gNm, O.d, itemsOf, leave, endsOf, outsOf, clean, wYes, wK, CE.s, wDct0, wDct1, wRev, wRev2, wPop, wSortSet, wParN, wTupAsg, prepL, putL, wEnum2, wCallK, perm, gIsB, gRepr, List.getD_cons_zero, List.getD_cons_succ,
    gI, gIC, Dl.gSub, gFdiv, gMod, gPow, gLt, gLe, gGt, gGe, gAdd, gMul, gIsN, gNotN, Dl.isNon, gIx, gSl, gLen, gAbs, gInt1, gMax2, gMin2, gTuple, gList, gIsi, atI_0, atI_1, atI_2, atI_m1, ixN_30, ixN_32,
    List.getElem?_cons_zero, List.getElem?_cons_succ, List.set_cons_zero, List.set_cons_succ, List.cons_append, List.nil_append, List.append_nil, List.replicate, List.length_cons, List.length_nil, List.map_cons, List.map_nil, Nat.reduceAdd, Nat.reduceSub, Nat.add_one_sub_one,
    true_and, and_true, if_true, if_false, Bool.false_eq_true, Bool.not_true, Bool.not_false, reduceIte, ite_true, ite_false])
end Lw
namespace Lw
open PySem L2 Dl Rs
local macro_rules | `(tactic| walk_at "dl") => `(tactic| simp (config := { maxSteps := 400000 }) only [wSeq, wIfS, wAnd, wOr, wNot, wRet, wDrop, wNext, wBrk, wCnt, wAndV, wOrV, wNotV, wB, wIf, wCB, wArgs, wVar, wC, wTup, wLst, wOp, wChain, wNeg, wSl, wP, wNoP, wSet, wPar, wAsg, wCall, wCallP, wCallN, wApp, wExt, wMt, gApp, gExt, wSetIx, wSeqI, wRng1, wRng2, wZip, wEnum, wFor, withL, lookL, lookD, with2, frz, frzL, prep, put, notLent, kindO, gTp, gNms, gNm, O.d, itemsOf, leave, endsOf, outsOf, clean, wYes, wK, CE.s, wDct0, wDct1, wRev, wRev2, wPop, wSortSet, wParN, wTupAsg, prepL, putL, wEnum2, wCallK, perm, gIsB, gRepr, List.getD_cons_zero, List.getD_cons_succ,
    gI, gIC, Dl.gSub, gFdiv, gMod, gPow, gLt, gLe, gGt, gGe, gAdd, gMul, gIsN, gNotN, Dl.isNon, gIx, gSl, gLen, gAbs, gInt1, gMax2, gMin2, gTuple, gList, gIsi, atI_0, atI_1, atI_2, atI_m1, ixN_30, ixN_32,
    List.getElem?_cons_zero, List.getElem?_cons_succ, List.set_cons_zero, List.set_cons_succ, List.cons_append, List.nil_append, List.append_nil, List.replicate, List.length_cons, List.length_nil, List.map_cons, List.map_nil, Nat.reduceAdd, Nat.reduceSub, Nat.add_one_sub_one,
    true_and, and_true, if_true, if_false, Bool.false_eq_true, Bool.not_true, Bool.not_false, reduceIte, ite_true, ite_false])
local macro_rules | `(tactic| walk_at "lb") => `(tactic| simp (config := { maxSteps := 400000 }) only [lcBody, wipeD, back, Option.getD_some, wSeq, wIfS, wAnd, wOr, wNot, wRet, wDrop, wNext, wBrk, wCnt, wAndV, wOrV, wNotV, wB, wIf, wCB, wArgs, wVar, wC, wTup, wLst, wOp, wChain, wNeg, wSl, wP, wNoP, wSet, wPar, wAsg, wCall, wCallP, wCallN, wApp, wExt, wMt, gApp, gExt, wSetIx, wSeqI, wRng1, wRng2, wZip, wEnum, wFor, withL, lookL, lookD, with2, frz, frzL, prep, put, notLent, kindO, gTp, gNms, gNm, O.d, itemsOf, leave, endsOf, outsOf, clean, wYes, wK, CE.s, wDct0, wDct1, wRev, wRev2, wPop, wSortSet, wParN, wTupAsg, prepL, putL, wEnum2, wCallK, perm, gIsB, gRepr, List.getD_cons_zero, List.getD_cons_succ,
    gI, gIC, Dl.gSub, gFdiv, gMod, gPow, gLt, gLe, gGt, gGe, gAdd, gMul, gIsN, gNotN, Dl.isNon, gIx, gSl, gLen, gAbs, gInt1, gMax2, gMin2, gTuple, gList, gIsi, atI_0, atI_1, atI_2, atI_m1, ixN_30, ixN_32,
    List.getElem?_cons_zero, List.getElem?_cons_succ, List.set_cons_zero, List.set_cons_succ, List.cons_append, List.nil_append, List.append_nil, List.replicate, List.length_cons, List.length_nil, List.map_cons, List.map_nil, Nat.reduceAdd, Nat.reduceSub, Nat.add_one_sub_one,
    true_and, and_true, if_true, if_false, Bool.false_eq_true, Bool.not_true, Bool.not_false, reduceIte, ite_true, ite_false])
structure RowsOk (cols : List D) (cuts : List (List Int)) (rs : List (List (Option Int))) : Prop where
  lc : cols.length ≤ 100
  eq : cuts.length = cols.length
  lk : ∀ c ∈ cuts, c.length ≤ 1000
  lr : rs.length ≤ 1000
  wd : ∀ r ∈ rs, r.length = cols.length
end Lw
namespace Lw
open PySem L2 Dl Rs
local macro_rules | `(tactic| walk_at "dl") => `(tactic| simp (config := { maxSteps := 400000 }) only [wSeq, wIfS, wAnd, wOr, wNot, wRet, wDrop, wNext, wBrk, wCnt, wAndV, wOrV, wNotV, wB, wIf, wCB, wArgs, wVar, wC, wTup, wLst, wOp, wChain, wNeg, wSl, wP, wNoP, wSet, wPar, wAsg, wCall, wCallP, wCallN, wApp, wExt, wMt, gApp, gExt, wSetIx, wSeqI, wRng1, wRng2, wZip, wEnum, wFor, withL, lookL, lookD, with2, frz, frzL, prep, put, notLent, kindO, gTp, gNms, gNm, O.d, itemsOf, leave, endsOf, outsOf, clean, wYes, wK, CE.s, wDct0, wDct1, wRev, wRev2, wPop, wSortSet, wParN, wTupAsg, prepL, putL, wEnum2, wCallK, perm, gIsB, gRepr, List.getD_cons_zero, List.getD_cons_succ,
    gI, gIC, Dl.gSub, gFdiv, gMod, gPow, gLt, gLe, gGt, gGe, gAdd, gMul, gIsN, gNotN, Dl.isNon, gIx, gSl, gLen, gAbs, gInt1, gMax2, gMin2, gTuple, gList, gIsi, atI_0, atI_1, atI_2, atI_m1, ixN_30, ixN_32,
    List.getElem?_cons_zero, List.getElem?_cons_succ, List.set_cons_zero, List.set_cons_succ, List.cons_append, List.nil_append, List.append_nil, List.replicate, List.length_cons, List.length_nil, List.map_cons, List.map_nil, Nat.reduceAdd, Nat.reduceSub, Nat.add_one_sub_one,
    true_and, and_true, if_true, if_false, Bool.false_eq_true, Bool.not_true, Bool.not_false, reduceIte, ite_true, ite_false])
local macro_rules | `(tactic| walk_at "lb") => `(tactic| simp (config := { maxSteps := 400000 }) only [lcBody, wipeD, back, Option.getD_some, wSeq, wIfS, wAnd, wOr, wNot, wRet, wDrop, wNext, wBrk, wCnt, wAndV, wOrV, wNotV, wB, wIf, wCB, wArgs, wVar, wC, wTup, wLst, wOp, wChain, wNeg, wSl, wP, wNoP, wSet, wPar, wAsg, wCall, wCallP, wCallN, wApp, wExt, wMt, gApp, gExt, wSetIx, wSeqI, wRng1, wRng2, wZip, wEnum, wFor, withL, lookL, lookD, with2, frz, frzL, prep, put, notLent, kindO, gTp, gNms, gNm, O.d, itemsOf, leave, endsOf, outsOf, clean, wYes, wK, CE.s, wDct0, wDct1, wRev, wRev2, wPop, wSortSet, wParN, wTupAsg, prepL, putL, wEnum2, wCallK, perm, gIsB, gRepr, List.getD_cons_zero, List.getD_cons_succ,
    gI, gIC, Dl.gSub, gFdiv, gMod, gPow, gLt, gLe, gGt, gGe, gAdd, gMul, gIsN, gNotN, Dl.isNon, gIx, gSl, gLen, gAbs, gInt1, gMax2, gMin2, gTuple, gList, gIsi, atI_0, atI_1, atI_2, atI_m1, ixN_30, ixN_32,
    List.getElem?_cons_zero, List.getElem?_cons_succ, List.set_cons_zero, List.set_cons_succ, List.cons_append, List.nil_append, List.append_nil, List.replicate, List.length_cons, List.length_nil, List.map_cons, List.map_nil, Nat.reduceAdd, Nat.reduceSub, Nat.add_one_sub_one,
    true_and, and_true, if_true, if_false, Bool.false_eq_true, Bool.not_true, Bool.not_false, reduceIte, ite_true, ite_false])
def Sh (n : Nat) (d : D) : Prop := plainD d = true ∧ PyData.canLay0 (pyD d) = true ∧ (pyD d).depth ≤ n
theorem shL {n : Nat} : ∀ {ds : List D}, (∀ e ∈ ds, Sh n e) → plainL ds = true ∧ PyData.canLayAll0 (pyL ds) = true ∧ PyData.depthAll (pyL ds) ≤ n
  | [], _ => ⟨rfl, rfl, Nat.zero_le _⟩
  | d :: ds, h => by
    obtain ⟨a, b, c⟩ := shL fun e he => h e (List.mem_cons_of_mem _ he)
    obtain ⟨x, y, z⟩ := h d (by simp)
    refine ⟨by show (plainD d && plainL ds) = true; rw [x, a]; rfl, by show (PyData.canLay0 (pyD d) && PyData.canLayAll0 (pyL ds)) = true; rw [y, b]; rfl, ?_⟩
    show max (pyD d).depth (PyData.depthAll (pyL ds)) ≤ n
    omega
theorem sh_tup {n : Nat} {ds : List D} (h : ∀ e ∈ ds, Sh n e) : Sh (n + 1) (.tup ds) := by
  obtain ⟨a, b, c⟩ := shL h
  exact ⟨a, b, Nat.succ_le_succ c⟩
theorem Sh.mono {n m : Nat} {d : D} (h : Sh n d) (hm : n ≤ m) : Sh m d := ⟨h.1, h.2.1, Nat.le_trans h.2.2 hm⟩
theorem Sh.sh {n : Nat} {d : D} (h : Sh n d) (hn : n ≤ 64) : shD d := by
  refine ⟨h.1, ?_⟩
  unfold SeqAt.shaped
  rw [h.2.1, decide_eq_true (Nat.le_trans h.2.2 hn)]
  rfl
theorem sh_int (i : Int) : Sh 0 (.int i) := ⟨rfl, rfl, Nat.le_refl _⟩
theorem sh_pair (p : Int × Int) : Sh 1 (pairD p) := sh_tup fun e he => by
  simp only [List.mem_cons, List.not_mem_nil, or_false] at he
  rcases he with rfl | rfl <;> exact sh_int _
def AnyOk (d : D) : Prop := showD d = true ∧ ndD d ≤ 50000
theorem showL_mem : ∀ {ds : List D}, showL ds = true → ∀ e ∈ ds, showD e = true
  | d :: ds, h, e, he => by
    unfold showL at h
    rw [Bool.and_eq_true] at h
    rcases List.mem_cons.mp he with rfl | he
    · exact h.1
    · exact showL_mem h.2 e he
theorem len_nd : ∀ ds : List D, ds.length ≤ ndL ds := fun ds => by
  induction ds with
  | nil => exact Nat.le_refl _
  | cons d ds ih =>
    have : 1 ≤ ndD d := by cases d <;> first | exact Nat.le_refl _ | (show 1 ≤ 1 + _; omega)
    show ds.length + 1 ≤ ndD d + ndL ds
    omega
theorem nd_mem : ∀ {ds : List D} {e : D}, e ∈ ds → ndD e ≤ ndL ds
  | d :: ds, e, he => by
    show ndD e ≤ ndD d + ndL ds
    rcases List.mem_cons.mp he with rfl | he
    · omega
    · have := nd_mem he; omega
theorem AnyOk.tup {ds : List D} (h : AnyOk (.tup ds)) : ds.length ≤ 50000 ∧ ∀ e ∈ ds, AnyOk e := by
  have h1 : 1 + ndL ds ≤ 50000 := h.2
  have hL : showL ds = true := by have := h.1; simpa [showD] using this
  have := len_nd ds
  exact ⟨by omega, fun e he => ⟨showL_mem hL e he, by have := nd_mem he; omega⟩⟩
end Lw
namespace Lw
open PySem L2 Dl Rs
theorem loop_by {g : WG} {w : WS} {KD : DEnds} (I : List D → List Dl.Slot → Prop) (h0 : ∀ ρ, I [] ρ → KD.nx ρ)
    (h1 : ∀ d ds ρ (L : List Dl.Slot → Prop), I (d :: ds) ρ → (∀ ρ', I ds ρ' → L ρ') → g d ρ fun ρ1 => w { nx := L, ct := L, bk := KD.nx, rt := KD.rt } ρ1) :
    ∀ (ds : List D) (ρ : List Dl.Slot), I ds ρ → loop g w KD ds ρ
  | [], ρ, hi => h0 ρ hi
  | d :: ds, ρ, hi => h1 d ds ρ _ hi fun ρ' h' => loop_by I h0 h1 ds ρ' h'
theorem lcl_by {g : WG} {t : WT} {e : WE} {vs : List Nat} {Q : List D → List Dl.Slot → Prop} (I : List D → List D → List Dl.Slot → Prop) (h0 : ∀ acc ρ, I [] acc ρ → Q acc ρ)
    (h1 : ∀ d ds acc ρ (k1 : D → List Dl.Slot → Prop) (k0 : List Dl.Slot → Prop), I (d :: ds) acc ρ → (∀ x ρ', acc.length ≤ 16000000 → I ds (acc ++ [x]) ρ' → k1 x ρ') → (∀ ρ', I ds acc ρ' → k0 ρ') → g d (wipeD ρ vs) (lcBody t e ρ vs k1 k0)) :
    ∀ (ds acc : List D) (ρ : List Dl.Slot), I ds acc ρ → lcl g t e vs Q ds ρ acc
  | [], acc, ρ, hi => h0 acc ρ hi
  | d :: ds, acc, ρ, hi => h1 d ds acc ρ _ _ hi (fun x ρ' hz h' => ⟨Nat.lt_of_le_of_lt hz (by decide), lcl_by I h0 h1 ds (acc ++ [x]) ρ' h'⟩) fun ρ' h' => lcl_by I h0 h1 ds acc ρ' h'
theorem lc_map {wi : WI} {g : WG} {t : WT} {e : WE} {vs : List Nat} {Q : List D → List Dl.Slot → Prop} {ρ : List Dl.Slot} (f : D → D) (ds : List D) (hn : ds.length ≤ 16000000)
    (step : ∀ d ∈ ds, ∀ (k1 : D → List Dl.Slot → Prop) (k0 : List Dl.Slot → Prop), k1 (f d) ρ → g d (wipeD ρ vs) (lcBody t e ρ vs k1 k0)) (hq : Q (ds.map f) ρ) : lcl g t e vs Q ds ρ [] := by
  refine lcl_by (fun rest acc ρ' => ρ' = ρ ∧ ∃ done, ds = done ++ rest ∧ acc = done.map f) (fun acc ρ' ⟨e1, done, e2, e3⟩ => ?_) (fun d rest acc ρ' k1 k0 ⟨e1, done, e2, e3⟩ h1 h0 => ?_) ds [] ρ ⟨rfl, [], rfl, rfl⟩
  · subst e1; rw [List.append_nil] at e2; subst e2; subst e3; exact hq
  · subst e1
    refine step d (by rw [e2]; simp) k1 k0 (h1 _ _ ?_ ⟨rfl, done ++ [d], by rw [e2]; simp, by rw [e3]; simp⟩)
    have : ds.length = done.length + (rest.length + 1) := by rw [e2]; simp
    rw [e3, List.length_map]; omega
theorem lc_sel {g : WG} {t : WT} {e : WE} {vs : List Nat} {Q : List D → List Dl.Slot → Prop} {ρ : List Dl.Slot} (c : D → Bool) (f : D → D) (ds : List D) (hn : ds.length ≤ 16000000)
    (step : ∀ d ∈ ds, ∀ (k1 : D → List Dl.Slot → Prop) (k0 : List Dl.Slot → Prop), (if c d = true then k1 (f d) ρ else k0 ρ) → g d (wipeD ρ vs) (lcBody t e ρ vs k1 k0)) (hq : Q ((ds.filter c).map f) ρ) : lcl g t e vs Q ds ρ [] := by
  refine lcl_by (fun rest acc ρ' => ρ' = ρ ∧ ∃ done, ds = done ++ rest ∧ acc = (done.filter c).map f) (fun acc ρ' ⟨e1, done, e2, e3⟩ => ?_) (fun d rest acc ρ' k1 k0 ⟨e1, done, e2, e3⟩ h1 h0 => ?_) ds [] ρ ⟨rfl, [], rfl, rfl⟩
  · subst e1; rw [List.append_nil] at e2; subst e2; subst e3; exact hq
  · subst e1
    refine step d (by rw [e2]; simp) k1 k0 ?_
    have hl : ds.length = done.length + (rest.length + 1) := by rw [e2]; simp
    cases hc : c d with
    | true =>
      rw [if_pos rfl]
      refine h1 _ _ ?_ ⟨rfl, done ++ [d], by rw [e2]; simp, by rw [e3]; simp [List.filter_append, hc]⟩
      have := List.length_filter_le c done
      rw [e3, List.length_map]; omega
    | false =>
      rw [if_neg (by simp)]
      exact h0 _ ⟨rfl, done ++ [d], by rw [e2]; simp, by rw [e3]; simp [List.filter_append, hc]⟩
theorem outs_fro : ∀ (ds : List D) (ρ : List Dl.Slot), outsOf (ds.map .fro) ρ = ds.map .fro
  | [], _ => rfl
  | d :: ds, [] => by rw [List.map_cons]; show _ :: outsOf (ds.map .fro) [] = _; rw [outs_fro ds]
  | d :: ds, s :: ρ => by rw [List.map_cons]; show _ :: outsOf (ds.map .fro) ρ = _; rw [outs_fro ds]
theorem rtF (ds : List D) {Q : Dl.Slot → List Dl.Slot → Prop} {v : D} {ρ : List Dl.Slot} (h : Q (.fro v) (ds.map .fro)) : (endsOf (ds.map .fro) Q).rt (.fro v) ρ := by
  show Q (.fro v) (outsOf (ds.map .fro) ρ)
  rw [outs_fro]; exact h
theorem rtFV (ds : List D) {Q : Dl.Slot → List Dl.Slot → Prop} {u : O} {i : Nat} {ρ : List Dl.Slot} (e : ρ[i]? = some (.own false u)) (h : Q (.own false u) (ds.map .fro)) : (endsOf (ds.map .fro) Q).rt (.var i) ρ := by
  show (match ρ[i]? with
    | some (.own false o) => Q (.own false o) (outsOf (ds.map .fro) (ρ.set i .nil))
    | some (.fro d) => Q (.fro d) (outsOf (ds.map .fro) ρ)
    | _ => False)
  rw [e]
  show Q (.own false u) (outsOf (ds.map .fro) _)
  rw [outs_fro]; exact h
theorem loop_ix {g : WG} {w : WS} {KD : DEnds} (ds : List D) (I : Nat → List Dl.Slot → Prop) (h0 : ∀ ρ, I ds.length ρ → KD.nx ρ)
    (h1 : ∀ i d ρ (L : List Dl.Slot → Prop), ds[i]? = some d → I i ρ → (∀ ρ', I (i + 1) ρ' → L ρ') → g d ρ fun ρ1 => w { nx := L, ct := L, bk := KD.nx, rt := KD.rt } ρ1) (ρ : List Dl.Slot) (hi : I 0 ρ) : loop g w KD ds ρ := by
  refine loop_by (fun rest ρ => ∃ i, rest = ds.drop i ∧ i ≤ ds.length ∧ I i ρ) (fun ρ ⟨i, e, hl, h⟩ => ?_) (fun d rest ρ L ⟨i, e, hl, h⟩ hL => ?_) ds ρ ⟨0, rfl, Nat.zero_le _, hi⟩
  · have : ds.length ≤ i := by
      have := congrArg List.length e
      simp at this; omega
    exact h0 ρ (by rw [show ds.length = i by omega]; exact h)
  · have hd : ds[i]? = some d := by
      have h2 : (ds.drop i)[0]? = some d := by rw [← e]; rfl
      rw [List.getElem?_drop] at h2; exact h2
    have hr : rest = ds.drop (i + 1) := by
      have h2 := drop_cons hd
      rw [← e] at h2
      exact (List.cons.inj h2).2
    exact h1 i d ρ L hd h fun ρ' h' => hL ρ' ⟨i + 1, hr, (List.getElem?_eq_some_iff.mp hd).1, h'⟩
theorem range_at {lo : Int} {n i : Nat} {d : D} (e : (rangeD lo n)[i]? = some d) : i < n ∧ d = .int (lo + i) := by
  unfold rangeD at e
  rw [List.getElem?_map] at e
  cases q : (List.range n)[i]? with
  | none => rw [q] at e; cases e
  | some j =>
    rw [q] at e
    obtain ⟨h1, h2⟩ := List.getElem?_eq_some_iff.mp q
    rw [List.length_range] at h1
    rw [List.getElem_range] at h2
    subst h2
    cases e
    exact ⟨h1, rfl⟩
theorem rangeD_len (lo : Int) (n : Nat) : (rangeD lo n).length = n := by unfold rangeD; rw [List.length_map, List.length_range]
theorem loop_rng {g : WG} {w : WS} {KD : DEnds} (lo : Int) (n : Nat) (I : Nat → List Dl.Slot → Prop) (h0 : ∀ ρ, I n ρ → KD.nx ρ)
    (h1 : ∀ (i : Nat) ρ (L : List Dl.Slot → Prop), i < n → I i ρ → (∀ ρ', I (i + 1) ρ' → L ρ') → g (.int (lo + i)) ρ fun ρ1 => w { nx := L, ct := L, bk := KD.nx, rt := KD.rt } ρ1) (ρ : List Dl.Slot) (hi : I 0 ρ) : loop g w KD (rangeD lo n) ρ := by
  refine loop_ix (rangeD lo n) I (fun ρ h => h0 ρ (by rw [rangeD_len] at h; exact h)) (fun i d ρ L hd h hL => ?_) ρ hi
  obtain ⟨hi, rfl⟩ := range_at hd
  exact h1 i ρ L hi h hL
theorem get_map {α β : Type} {f : α → β} {l : List α} {i : Nat} {y : β} (h : (l.map f)[i]? = some y) : ∃ x, l[i]? = some x ∧ y = f x := by
  rw [List.getElem?_map] at h
  cases e : l[i]? with
  | none => rw [e] at h; cases h
  | some x => rw [e] at h; cases h; exact ⟨x, rfl, rfl⟩
end Lw
namespace Lw
open PySem L2 Dl Rs
local macro_rules | `(tactic| walk_at "dl") => `(tactic| try simp (config := { maxSteps := 400000 }) only [lcBody, wipeD, back, Option.getD_some, wSeq, wIfS, wAnd, wOr, wNot, wRet, wDrop, wNext, wBrk, wCnt, wAndV, wOrV, wNotV, wB, wIf, wCB, wArgs, wVar, wC, wTup, wLst, wOp, wChain, wNeg, wSl, wP, wNoP, wSet, wPar, wAsg, wCall, wCallP, wCallN, wApp, wExt, wMt, gApp, gExt, wSetIx, wSeqI, wRng1, wRng2, wZip, wEnum, wFor, withL, lookL, lookD, with2, frz, frzL, prep, put, notLent, kindO, gTp, gNms, gNm, O.d, itemsOf, leave, endsOf, outsOf, clean, wYes, wK, CE.s, wDct0, wDct1, wRev, wRev2, wPop, wSortSet, wParN, wTupAsg, prepL, putL, wEnum2, wCallK, perm, gIsB, gRepr, List.getD_cons_zero, List.getD_cons_succ, wFg, wFgL, fgs, fg1, wFz, fzs, fz1, gTpG, gAllT, wTupS, wLstS, wArgsS, wLenSet, gIn_tup, gIn_lst, gNotIn_tup, gNotIn_lst, gEq_int, gNe_int, gEq_str, gNe_str,
    gI, gIC, Dl.gSub, gFdiv, gMod, gPow, gLt, gLe, gGt, gGe, gAdd, gMul, gIsN, gNotN, Dl.isNon, gIx, gSl, gLen, gAbs, gInt1, gMax2, gMin2, gTuple, gList, gIsi, atI_0, atI_1, atI_2, atI_m1, ixN_30, ixN_32,
    List.getElem?_cons_zero, List.getElem?_cons_succ, List.set_cons_zero, List.set_cons_succ, List.cons_append, List.nil_append, List.append_nil, List.replicate, List.length_cons, List.length_nil, List.map_cons, List.map_nil, Nat.reduceAdd, Nat.reduceSub, Nat.add_one_sub_one,
    true_and, and_true, if_true, if_false, Bool.false_eq_true, Bool.not_true, Bool.not_false, reduceIte, ite_true, ite_false])
theorem AnyOk.str {x : Str} (h : AnyOk (.str x)) : x.length ≤ 50000 := by
  have h2 : 1 + x.cps.size ≤ 50000 := h.2
  show x.cps.size ≤ 50000
  omega
theorem AnyOk.mem {ds : List D} {e : D} (h : AnyOk (.tup ds)) (he : e ∈ ds) : AnyOk e := h.tup.2 e he
end Lw
namespace Lw
open PySem L2 Dl Rs
local macro_rules | `(tactic| walk_at "dl") => `(tactic| try simp (config := { maxSteps := 400000 }) only [lcBody, wipeD, back, Option.getD_some, wSeq, wIfS, wAnd, wOr, wNot, wRet, wDrop, wNext, wBrk, wCnt, wAndV, wOrV, wNotV, wB, wIf, wCB, wArgs, wVar, wC, wTup, wLst, wOp, wChain, wNeg, wSl, wP, wNoP, wSet, wPar, wAsg, wCall, wCallP, wCallN, wApp, wExt, wMt, gApp, gExt, wSetIx, wSeqI, wRng1, wRng2, wZip, wEnum, wFor, withL, lookL, lookD, with2, frz, frzL, prep, put, notLent, kindO, gTp, gNms, gNm, O.d, itemsOf, leave, endsOf, outsOf, clean, wYes, wK, CE.s, wDct0, wDct1, wRev, wRev2, wPop, wSortSet, wSortSet2, gEqNil, gNotB, wParN, wTupAsg, prepL, putL, wEnum2, wCallK, perm, gIsB, gRepr, List.getD_cons_zero, List.getD_cons_succ, wFg, wFgL, fgs, fg1, wFz, fzs, fz1, gTpG, gAllT, wTupS, wLstS, wArgsS, wLenSet, gIn_tup, gIn_lst, gNotIn_tup, gNotIn_lst, gEq_int, gNe_int, gEq_str, gNe_str,
    gI, gIC, Dl.gSub, gFdiv, gMod, gPow, gLt, gLe, gGt, gGe, gAdd, gMul, gIsN, gNotN, Dl.isNon, gIx, gSl, gLen, gAbs, gInt1, gMax2, gMin2, gTuple, gList, gIsi, atI_0, atI_1, atI_2, atI_m1, ixN_30, ixN_32,
    List.getElem?_cons_zero, List.getElem?_cons_succ, List.set_cons_zero, List.set_cons_succ, List.cons_append, List.nil_append, List.append_nil, List.replicate, List.length_cons, List.length_nil, List.map_cons, List.map_nil, Nat.reduceAdd, Nat.reduceSub, Nat.add_one_sub_one,
    true_and, and_true, if_true, if_false, Bool.false_eq_true, Bool.not_true, Bool.not_false, reduceIte, ite_true, ite_false, decide_true, decide_false])
abbrev zs (n : Nat) : List (Int × Int) := List.replicate n (0, 0)
end Lw
namespace Lw
open PySem L2 Dl Rs
local macro_rules | `(tactic| walk_at "dl") => `(tactic| try simp (config := { maxSteps := 400000 }) only [lcBody, wipeD, back, Option.getD_some, wSeq, wIfS, wAnd, wOr, wNot, wRet, wDrop, wNext, wBrk, wCnt, wAndV, wOrV, wNotV, wB, wIf, wCB, wArgs, wVar, wC, wTup, wLst, wOp, wChain, wNeg, wSl, wP, wNoP, wSet, wPar, wAsg, wCall, wCallP, wCallN, wApp, wExt, wMt, gApp, gExt, wSetIx, wSeqI, wRng1, wRng2, wZip, wEnum, wFor, withL, lookL, lookD, with2, frz, frzL, prep, put, notLent, kindO, gTp, gNms, gNm, O.d, itemsOf, leave, endsOf, outsOf, clean, wYes, wK, CE.s, wDct0, wDct1, wRev, wRev2, wPop, wSortSet, wSortSet2, gEqNil, gNotB, wParN, wTupAsg, prepL, putL, wEnum2, wCallK, perm, gIsB, gRepr, List.getD_cons_zero, List.getD_cons_succ, wFg, wFgL, fgs, fg1, wFz, fzs, fz1, gTpG, gAllT, wTupS, wLstS, wArgsS, wLenSet, gIn_tup, gIn_lst, gNotIn_tup, gNotIn_lst, gEq_int, gNe_int, gEq_str, gNe_str,
    gI, gIC, Dl.gSub, gFdiv, gMod, gPow, gLt, gLe, gGt, gGe, gAdd, gMul, gIsN, gNotN, Dl.isNon, gIx, gSl, gLen, gAbs, gInt1, gMax2, gMin2, gTuple, gList, gIsi, atI_0, atI_1, atI_2, atI_m1, ixN_30, ixN_32,
    List.getElem?_cons_zero, List.getElem?_cons_succ, List.set_cons_zero, List.set_cons_succ, List.cons_append, List.nil_append, List.append_nil, List.replicate, List.length_cons, List.length_nil, List.map_cons, List.map_nil, Nat.reduceAdd, Nat.reduceSub, Nat.add_one_sub_one,
    true_and, and_true, if_true, if_false, Bool.false_eq_true, Bool.not_true, Bool.not_false, reduceIte, ite_true, ite_false, decide_true, decide_false])
end Lw
namespace Lw
open PySem L2 Dl Rs
local macro_rules | `(tactic| walk_at "dl") => `(tactic| try simp (config := { maxSteps := 400000 }) only [lcBody, wipeD, back, Option.getD_some, wSeq, wIfS, wAnd, wOr, wNot, wRet, wDrop, wNext, wBrk, wCnt, wAndV, wOrV, wNotV, wB, wIf, wCB, wArgs, wVar, wC, wTup, wLst, wOp, wChain, wNeg, wSl, wP, wNoP, wSet, wPar, wAsg, wCall, wCallP, wCallN, wApp, wExt, wMt, gApp, gExt, wSetIx, wSeqI, wRng1, wRng2, wZip, wEnum, wFor, withL, lookL, lookD, with2, frz, frzL, prep, put, notLent, kindO, gTp, gNms, gNm, O.d, itemsOf, leave, endsOf, outsOf, clean, wYes, wK, CE.s, wDct0, wDct1, wRev, wRev2, wPop, wSortSet, wParN, wTupAsg, prepL, putL, wEnum2, wCallK, perm, gIsB, gRepr, List.getD_cons_zero, List.getD_cons_succ, wFg, wFgL, fgs, fg1, wFz, fzs, fz1, gTpG, gAllT, wTupS, wLstS, wArgsS, wLenSet, gIn_tup, gIn_lst, gNotIn_tup, gNotIn_lst, gEq_int, gNe_int, gEq_str, gNe_str,
    gI, gIC, Dl.gSub, gFdiv, gMod, gPow, gLt, gLe, gGt, gGe, gAdd, gMul, gIsN, gNotN, Dl.isNon, gIx, gSl, gLen, gAbs, gInt1, gMax2, gMin2, gTuple, gList, gIsi, atI_0, atI_1, atI_2, atI_m1, ixN_30, ixN_32,
    List.getElem?_cons_zero, List.getElem?_cons_succ, List.set_cons_zero, List.set_cons_succ, List.cons_append, List.nil_append, List.append_nil, List.replicate, List.length_cons, List.length_nil, List.map_cons, List.map_nil, Nat.reduceAdd, Nat.reduceSub, Nat.add_one_sub_one,
    true_and, and_true, if_true, if_false, Bool.false_eq_true, Bool.not_true, Bool.not_false, reduceIte, ite_true, ite_false])
end Lw
namespace Lw
open PySem L2 Dl Rs
def Fine (w dp : Nat) (d : D) : Prop := showD d = true ∧ ndD d ≤ w ∧ (pyD d).depth ≤ dp
theorem Fine.mono {w dp w' dp' : Nat} {d : D} (h : Fine w dp d) (h1 : w ≤ w') (h2 : dp ≤ dp') : Fine w' dp' d := ⟨h.1, Nat.le_trans h.2.1 h1, Nat.le_trans h.2.2 h2⟩
theorem Fine.ok {w dp : Nat} {d : D} (h : Fine w dp d) (h1 : w ≤ 50000) (h2 : dp ≤ 60) : reprOk d := ⟨h.1, Nat.le_trans h.2.1 h1, Nat.le_trans h.2.2 h2⟩
theorem Fine.any {w dp : Nat} {d : D} (h : Fine w dp d) (h1 : w ≤ 50000) : AnyOk d := ⟨h.1, Nat.le_trans h.2.1 h1⟩
theorem fineL {w dp : Nat} : ∀ {ds : List D}, (∀ e ∈ ds, Fine w dp e) → showL ds = true ∧ ndL ds ≤ ds.length * w ∧ PyData.depthAll (pyL ds) ≤ dp
  | [], _ => ⟨rfl, Nat.zero_le _, Nat.zero_le _⟩
  | d :: ds, h => by
    obtain ⟨a, b, c⟩ := fineL fun e he => h e (List.mem_cons_of_mem _ he)
    obtain ⟨x, y, z⟩ := h d (by simp)
    refine ⟨by show (showD d && showL ds) = true; rw [x, a]; rfl, ?_, ?_⟩
    · show ndD d + ndL ds ≤ _
      rw [List.length_cons, Nat.succ_mul]
      omega
    · show max (pyD d).depth (PyData.depthAll (pyL ds)) ≤ dp
      omega
theorem fine_tup {w dp n : Nat} {ds : List D} (h : ∀ e ∈ ds, Fine w dp e) (hn : ds.length ≤ n) : Fine (n * w + 1) (dp + 1) (.tup ds) := by
  obtain ⟨a, b, c⟩ := fineL h
  have := Nat.mul_le_mul_right w hn
  refine ⟨a, by show 1 + ndL ds ≤ _; omega, ?_⟩
  show PyData.depthAll (pyL ds) + 1 ≤ dp + 1
  omega
theorem fine_int {i : Int} (h : i.natAbs < 2 ^ 250) : Fine 1 0 (.int i) := ⟨decide_eq_true h, Nat.le_refl _, Nat.le_refl _⟩
theorem fine_pair {a b : Int} (h1 : a.natAbs < 2 ^ 250) (h2 : b.natAbs < 2 ^ 250) : Fine 3 1 (.tup [.int a, .int b]) := fine_tup (w := 1) (dp := 0) (n := 2) (fun e he => by
  simp only [List.mem_cons, List.not_mem_nil, or_false] at he
  rcases he with rfl | rfl
  · exact fine_int h1
  · exact fine_int h2) (Nat.le_refl _)
end Lw
namespace Lw
open PySem L2 Dl Rs
local macro_rules | `(tactic| walk_at "dl") => `(tactic| try simp (config := { maxSteps := 400000 }) only [wLstRg, wSetK, wUpd, gUpd, gDictP, gSortD, gMul2, lcBody, wipeD, back, Option.getD_some, wSeq, wIfS, wAnd, wOr, wNot, wRet, wDrop, wNext, wBrk, wCnt, wAndV, wOrV, wNotV, wB, wIf, wCB, wArgs, wVar, wC, wTup, wLst, wOp, wChain, wNeg, wSl, wP, wNoP, wSet, wPar, wAsg, wCall, wCallP, wCallN, wApp, wExt, wMt, gApp, gExt, wSetIx, wSeqI, wRng1, wRng2, wZip, wEnum, wFor, withL, lookL, lookD, with2, frz, frzL, prep, put, notLent, kindO, gTp, gNms, gNm, O.d, itemsOf, leave, endsOf, outsOf, clean, wYes, wK, CE.s, wDct0, wDct1, wRev, wRev2, wPop, wSortSet, wSortSet2, gEqNil, gNotB, wParN, wTupAsg, prepL, putL, wEnum2, wCallK, perm, gIsB, gRepr, List.getD_cons_zero, List.getD_cons_succ, wFg, wFgL, fgs, fg1, wFz, fzs, fz1, gTpG, gAllT, wTupS, wLstS, wArgsS, wLenSet, gIn_tup, gIn_lst, gNotIn_tup, gNotIn_lst, gEq_int, gNe_int, gEq_str, gNe_str,
    gI, gIC, Dl.gSub, gFdiv, gMod, gPow, gLt, gLe, gGt, gGe, gAdd, gMul, gIsN, gNotN, Dl.isNon, gIx, gSl, gLen, gAbs, gInt1, gMax2, gMin2, gTuple, gList, gIsi, atI_0, atI_1, atI_2, atI_m1, ixN_30, ixN_32,
    List.getElem?_cons_zero, List.getElem?_cons_succ, List.set_cons_zero, List.set_cons_succ, List.cons_append, List.nil_append, List.append_nil, List.replicate, List.length_cons, List.length_nil, List.map_cons, List.map_nil, Nat.reduceAdd, Nat.reduceSub, Nat.add_one_sub_one,
    true_and, and_true, if_true, if_false, Bool.false_eq_true, Bool.not_true, Bool.not_false, reduceIte, ite_true, ite_false, decide_true, decide_false])
theorem gNe_pairs_nil {ps : RS} {k : Dl.Slot → Prop} : gNe (.lst (ps.map pairD)) (.lst []) k = k (.fro (.bl (!decide (ps = [])))) := by
  have h1 : Sh 2 (.lst (ps.map pairD)) := by
    obtain ⟨a, b, c⟩ := shL (n := 1) (ds := ps.map pairD) fun d hd => by obtain ⟨p, _, rfl⟩ := List.mem_map.mp hd; exact sh_pair p
    exact ⟨a, b, Nat.succ_le_succ c⟩
  rw [gNe_sh (h1.sh (by decide)) (show shD (.lst []) from ⟨rfl, rfl⟩)]
  cases ps with
  | nil => rfl
  | cons a r => rfl
theorem last_pair (fs : RS) (s e : Int) : atI ((fs ++ [(s, e)]).map pairD) (-1) = some (.tup [.int s, .int e]) := by
  rw [List.map_append]; exact atI_m1
theorem ixN_last {n : Nat} (h : 0 < n) : ixN n (-1) = some (n - 1) := by
  unfold ixN
  rw [if_neg (by decide), if_pos (by omega)]
  congr 1
  omega
theorem set_last (fs : RS) (p q : Int × Int) : ((fs ++ [p]).map pairD).set ((fs ++ [p]).length - 1) (pairD q) = (fs ++ [q]).map pairD := by
  rw [List.map_append, List.map_append, List.length_append, List.length_singleton, Nat.add_sub_cancel]
  rw [List.set_append_right _ _ (by rw [List.length_map]; exact Nat.le_refl _), List.length_map, Nat.sub_self]
  rfl
def C__law_poured : WE := fun args Q => ∃ ps : RS, args = [.fro (.lst (ps.map pairD))] ∧ Ok ps ∧ ps.length ≤ 10000000 ∧
  ∀ rs, Canon rs → rs.length ≤ ps.length → (∀ x, In rs x ↔ In ps x) → Q (.fro (rsD rs)) args
def numsOf : RS → List Int
  | [] => []
  | p :: r => (List.range (p.2 + 1 - p.1).toNat).map (fun i : Nat => p.1 + (i : Int)) ++ numsOf r
def C__law_numbers : WE := fun args Q => ∃ rs : RS, args = [.fro (rsD rs)] ∧ Ok rs ∧ rs.length ≤ 100 ∧ Within (-1000) 1000 rs ∧ Q (.own false (.lst ((numsOf rs).map .int))) args
def oneS (ns : List Int) : RS := ns.map fun n => (n, n)
def C__law_of_numbers : WE := fun args Q => ∃ ns : List Int, args = [.fro (.lst (ns.map .int))] ∧ ns.length ≤ 10000000 ∧
  ∀ rs, Canon rs → rs.length ≤ ns.length → (∀ x, In rs x ↔ x ∈ ns) → Q (.fro (rsD rs)) args
def C__law_pairs_added : WE := fun args Q => ∃ a b : RS, args = [.fro (rsD a), .fro (rsD b)] ∧ Ok a ∧ Ok b ∧ a.length ≤ 100000 ∧ b.length ≤ 1000 ∧ a.length * b.length ≤ 1000000 ∧
  ∀ rs, Canon rs → rs.length ≤ a.length * b.length → (∀ x, In rs x ↔ SumIn a b x) → Q (.fro (rsD rs)) args
def wb__law_poured_1 : WS := (wFgL [2, 3] [] (wFg [2, 3] (wIfS (wAnd (wB (wOp gNe (wVar 1) (wLst []))) (wB (wOp gLe (wVar 2) (wOp gAdd (wOp gIx (wOp gIx (wVar 1) (wNeg (wC (.int 1)))) (wC (.int 1))) (wC (.int 1)))))) (wFg [3] (wSetIx 1 (wNeg (wC (.int 1))) (wTup [(wOp gIx (wOp gIx (wVar 1) (wNeg (wC (.int 1)))) (wC (.int 0))), (wCB gMax2 [(wOp gIx (wOp gIx (wVar 1) (wNeg (wC (.int 1)))) (wC (.int 1))), (wVar 3)])]))) (wFg [2, 3] (wDrop (wApp 1 (wTup [(wVar 2), (wVar 3)])))))))
def wr__law_poured_2 : WS := (wRet (wCB gTuple [(wVar 1)]))
def wr__law_poured_3 : WS := (wSeq (wFg [2, 3] (wFz [1] (wFor (wSeqI (wCB gSortP [(wVar 0)])) (gTp [2, 3]) wb__law_poured_1)))
  wr__law_poured_2)
def w__law_poured : WS := (wSeq (wSet 1 (wLst []))
  wr__law_poured_3)
def wb__law_numbers_1 : WS := (wFgL [2, 3] [] (wFg [2, 3] (wDrop (wExt 1 (wLstRg (wVar 2) (wOp gAdd (wVar 3) (wC (.int 1))))))))
def wr__law_numbers_2 : WS := (wRet (wVar 1))
def wr__law_numbers_3 : WS := (wSeq (wFg [2, 3] (wFor (wSeqI (wVar 0)) (gTp [2, 3]) wb__law_numbers_1))
  wr__law_numbers_2)
def w__law_numbers : WS := (wSeq (wSet 1 (wLst []))
  wr__law_numbers_3)
def w__law_of_numbers : WS := (wRet (wCall C__law_poured [(wLc (wSeqI (wVar 0)) (gNm 1) wYes (wTup [(wVar 1), (wVar 1)]) [1])]))
theorem loop_poured (KD : DEnds) (a0 : Dl.Slot) : ∀ (qs fs : RS) (s e : Int), qs.Pairwise lexLe → (∀ q ∈ qs, s ≤ q.1) → Ok qs → Canon (fs ++ [(s, e)]) → fs.length + qs.length < 15000000 →
    (∀ rs : RS, Canon rs → (∀ x, In rs x ↔ In (fs ++ [(s, e)]) x ∨ In qs x) → rs.length ≤ fs.length + 1 + qs.length → KD.nx [a0, .own false (.lst (rs.map pairD)), .nil, .nil]) →
    loop (gTp [2, 3]) wb__law_poured_1 KD (qs.map pairD) [a0, .own false (.lst ((fs ++ [(s, e)]).map pairD)), .nil, .nil]
  | [], fs, s, e, _, _, _, hc, _, hk => hk _ hc (fun x => ⟨.inl, fun z => z.elim id fun z => absurd z In.nil⟩) (by simp)
  | (ql, qh) :: qs, fs, s, e, hs, hge, ho, hc, hn, hk => by
    have hq : s ≤ ql := hge (ql, qh) (by simp)
    have hqo : ql ≤ qh := ho (ql, qh) (by simp)
    have hs' := List.pairwise_cons.mp hs
    have ho' : Ok qs := fun p hp => ho p (List.mem_cons_of_mem _ hp)
    rw [List.length_cons] at hn
    rw [List.map_cons, loop_cons, pairD_eq]
    generalize hL : loop (gTp [2, 3]) wb__law_poured_1 KD (qs.map pairD) = L
    unfold wb__law_poured_1
    walk_at "dl"
    refine ⟨by decide, ?_⟩
    rw [gNe_pairs_nil, decide_eq_false (by simp)]
    walk_at "dl"
    rw [last_pair]
    walk_at "dl"
    by_cases hle : ql ≤ e + 1
    · rw [if_pos (decide_eq_true hle)]
      obtain ⟨c1, i1⟩ := pour_in hc hq hle hqo
      refine ⟨by decide, ⟨_, _, rfl⟩, ?_⟩
      rw [List.length_map, ixN_last (by simp)]
      have em := set_last fs (s, e) (s, max e qh)
      rw [show pairD (s, max e qh) = .tup [.int s, .int (max e qh)] from rfl] at em
      show L _
      rw [em]
      subst hL
      refine loop_poured KD a0 qs fs s (max e qh) hs'.2 (fun q hq' => hge q (List.mem_cons_of_mem _ hq')) ho' c1 (by omega) fun rs c2 i2 n2 => hk rs c2 (fun x => ?_) (by rw [List.length_cons]; omega)
      rw [i2 x, i1 x, in_cons]
      exact ⟨fun z => z.elim (fun z => z.elim .inl fun z => .inr (.inl z)) fun z => .inr (.inr z), fun z => z.elim (fun z => .inl (.inl z)) fun z => z.elim (fun z => .inl (.inr z)) .inr⟩
    · rw [if_neg (by rw [decide_eq_false hle]; exact Bool.false_ne_true)]
      refine ⟨⟨_, _, rfl, rfl⟩, by decide, by rw [List.length_map, List.length_append, List.length_singleton]; exact big' _ (by omega), ?_⟩
      have hse : s ≤ e := hc.ok (s, e) (by simp)
      have c1 : Canon ((fs ++ [(s, e)]) ++ [(ql, qh)]) := canon_snoc hc hqo fun r hr => by
        rcases List.mem_append.mp hr with hr | hr
        · have := (List.pairwise_append.mp hc.gap).2.2 r hr (s, e) (by simp)
          unfold Gap at this ⊢
          have this : r.2 + 1 < s := this
          show r.2 + 1 < ql
          omega
        · rw [List.mem_singleton.mp hr]
          show e + 1 < ql
          omega
      have em : (fs ++ [(s, e)]).map pairD ++ [D.tup [D.int ql, D.int qh]] = ((fs ++ [(s, e)]) ++ [(ql, qh)]).map pairD := by rw [List.map_append (l₁ := fs ++ [(s, e)])]; rfl
      rw [em]
      subst hL
      refine loop_poured KD a0 qs (fs ++ [(s, e)]) ql qh hs'.2 (fun q hq' => lexLe_ge (hs'.1 q hq')) ho' c1 (by rw [List.length_append, List.length_singleton]; omega) fun rs c2 i2 n2 => hk rs c2 (fun x => ?_) (by rw [List.length_append, List.length_singleton] at n2; rw [List.length_cons]; omega)
      rw [i2 x, in_append, in_cons, in_cons]
      exact ⟨fun z => z.elim (fun z => z.elim .inl fun z => .inr (.inl (z.elim id fun z => absurd z In.nil))) fun z => .inr (.inr z), fun z => z.elim (fun z => .inl (.inl z)) fun z => z.elim (fun z => .inl (.inr (.inl z))) .inr⟩
theorem ok__law_poured (args : List Dl.Slot) (Q : Dl.Slot → List Dl.Slot → Prop) (hl : args.length = 1) (h : C__law_poured args Q) : noOwn args ∧ w__law_poured (endsOf args Q) (args ++ List.replicate (4 - 1) .nil) := by
  obtain ⟨ps, rfl, hok, hz, hq⟩ := h
  refine ⟨noOwn1 _, ?_⟩
  unfold w__law_poured
  generalize hK : endsOf [.fro (.lst (ps.map pairD))] Q = KD
  have hret : ∀ rs ρ, Canon rs → rs.length ≤ ps.length → (∀ x, In rs x ↔ In ps x) → KD.rt (.fro (rsD rs)) ρ := fun rs ρ h1 h2 h3 => by subst hK; exact rtF [_] (hq rs h1 h2 h3)
  clear hK hq
  walk_at "dl"
  refine ⟨by decide, ?_⟩
  unfold wr__law_poured_3
  walk_at "dl"
  simp only [gSortP, pairsOf_map]
  intro qs hp hsrt
  have hok' : Ok qs := fun p h => hok p (hp.mem_iff.mp h)
  have hin : ∀ x, In qs x ↔ In ps x := fun x => ⟨fun ⟨p, h, z⟩ => ⟨p, hp.mem_iff.mp h, z⟩, fun ⟨p, h, z⟩ => ⟨p, hp.mem_iff.mpr h, z⟩⟩
  have hlen := hp.length_eq
  cases qs with
  | nil =>
    rw [List.map_nil]
    walk_at "dl"
    rw [loop_nil]
    walk_at "dl"
    unfold wr__law_poured_2
    walk_at "dl"
    exact hret [] _ Canon.nil (Nat.zero_le _) hin
  | cons q qs =>
    obtain ⟨ql, qh⟩ := q
    have hqo : ql ≤ qh := hok' (ql, qh) (by simp)
    have hs' := List.pairwise_cons.mp hsrt
    rw [List.length_cons] at hlen
    rw [List.map_cons, pairD_eq]
    walk_at "dl"
    rw [loop_cons]
    generalize hL : loop (gTp [2, 3]) wb__law_poured_1 _ (qs.map pairD) = L
    unfold wb__law_poured_1
    walk_at "dl"
    refine ⟨by decide, ?_⟩
    have hg : ∀ k, gNe (.lst []) (.lst []) k = k (.fro (.bl (!decide (([] : RS) = [])))) := fun k => gNe_pairs_nil (ps := [])
    rw [hg]
    walk_at "dl"
    refine ⟨⟨_, _, rfl, rfl⟩, by decide, by decide, ?_⟩
    subst hL
    have em : [D.tup [D.int ql, D.int qh]] = (([] : RS) ++ [(ql, qh)]).map pairD := rfl
    rw [em]
    refine loop_poured _ _ qs [] ql qh hs'.2 (fun q hq' => lexLe_ge (hs'.1 q hq')) (fun p hp => hok' p (List.mem_cons_of_mem _ hp)) ⟨fun p hp => by rw [List.mem_singleton.mp hp]; exact hqo, by simp⟩ (by simp only [List.length_nil]; omega) fun rs c i n => ?_
    walk_at "dl"
    unfold wr__law_poured_2
    walk_at "dl"
    rw [List.length_nil] at n
    refine hret rs _ c (by omega) fun x => ?_
    rw [i x, ← hin x, List.nil_append, in_cons, in_cons]
    exact ⟨fun z => z.elim (fun z => .inl (z.elim id fun z => absurd z In.nil)) .inr, fun z => z.elim (fun z => .inl (.inl z)) .inr⟩
theorem nums_mem {rs : RS} {x : Int} : x ∈ numsOf rs ↔ In rs x := by
  induction rs with
  | nil => exact ⟨fun h => (nomatch h), fun h => absurd h In.nil⟩
  | cons p r ih =>
    unfold numsOf
    rw [List.mem_append, ih, in_cons]
    have : x ∈ (List.range (p.2 + 1 - p.1).toNat).map (fun i : Nat => p.1 + (i : Int)) ↔ p.1 ≤ x ∧ x ≤ p.2 := by
      rw [List.mem_map]
      constructor
      · rintro ⟨i, hi, rfl⟩
        rw [List.mem_range] at hi
        omega
      · intro h
        exact ⟨(x - p.1).toNat, List.mem_range.mpr (by omega), by omega⟩
    rw [this]
theorem nums_len {rs : RS} (hw : Within (-1000) 1000 rs) : (numsOf rs).length ≤ 2001 * rs.length := by
  induction rs with
  | nil => exact Nat.le_refl _
  | cons p r ih =>
    unfold numsOf
    rw [List.length_append, List.length_map, List.length_range, List.length_cons]
    have a := hw p (by simp)
    have b := ih fun q hq => hw q (List.mem_cons_of_mem _ hq)
    omega
theorem nums_append (a b : RS) : numsOf (a ++ b) = numsOf a ++ numsOf b := by
  induction a with
  | nil => rfl
  | cons p a ih =>
    show _ ++ numsOf (a ++ b) = (_ ++ numsOf a) ++ numsOf b
    rw [ih, List.append_assoc]
theorem ok__law_numbers (args : List Dl.Slot) (Q : Dl.Slot → List Dl.Slot → Prop) (hl : args.length = 1) (h : C__law_numbers args Q) : noOwn args ∧ w__law_numbers (endsOf args Q) (args ++ List.replicate (4 - 1) .nil) := by
  obtain ⟨rs, rfl, hok, hz, hw, hq⟩ := h
  refine ⟨noOwn1 _, ?_⟩
  unfold w__law_numbers
  generalize hK : endsOf [.fro (rsD rs)] Q = KD
  have hret : ∀ ρ, ρ[1]? = some (.own false (.lst ((numsOf rs).map .int))) → KD.rt (.var 1) ρ := fun ρ h => by subst hK; exact rtFV [_] h hq
  clear hK hq
  walk_at "dl"
  refine ⟨by decide, ?_⟩
  unfold wr__law_numbers_3 rsD
  walk_at "dl"
  refine loop_ix _ (fun i ρ => ρ = [.fro (.tup (rs.map pairD)), .own false (.lst ((numsOf (rs.take i)).map .int)), .nil, .nil]) (fun ρ e => ?_) (fun i d ρ L hd e hL => ?_) _ rfl
  · subst e
    rw [List.length_map, List.take_length]
    walk_at "dl"
    unfold wr__law_numbers_2
    walk_at "dl"
    exact hret _ rfl
  · subst e
    obtain ⟨p, hp, rfl⟩ := get_map hd
    have hm := List.mem_of_getElem? hp
    have hb := hw p hm
    have hpo := hok p hm
    obtain ⟨pl, ph⟩ := p
    simp only at hb hpo
    rw [pairD_eq]
    walk_at "dl"
    unfold wb__law_numbers_1
    walk_at "dl"
    have hnl := nums_len (rs := rs.take i) fun q hq => hw q (List.mem_of_mem_take hq)
    have htl : (rs.take i).length ≤ 100 := by rw [List.length_take]; omega
    refine ⟨⟨_, _, rfl, rfl⟩, ⟨by omega, by omega, by omega, by omega, by omega⟩, by rw [List.length_map, rangeD_len]; exact big _ (by omega), hL _ ?_⟩
    have e1 : numsOf [(pl, ph)] = (List.range (ph + 1 - pl).toNat).map (fun i : Nat => pl + (i : Int)) := List.append_nil _
    rw [List.take_add_one, hp, Option.toList_some, nums_append, rg_D, ← List.map_append, e1]
def twice : D → D
  | .int n => pairD (n, n)
  | d => d
theorem in_ones {ns : List Int} {x : Int} : In (oneS ns) x ↔ x ∈ ns := by
  unfold oneS
  constructor
  · rintro ⟨p, hp, h1, h2⟩
    obtain ⟨n, hn, rfl⟩ := List.mem_map.mp hp
    have : x = n := by simp only at h1 h2; omega
    rw [this]; exact hn
  · intro h
    exact ⟨(x, x), List.mem_map.mpr ⟨x, h, rfl⟩, Int.le_refl _, Int.le_refl _⟩
theorem ok__law_of_numbers (args : List Dl.Slot) (Q : Dl.Slot → List Dl.Slot → Prop) (hl : args.length = 1) (h : C__law_of_numbers args Q) : noOwn args ∧ w__law_of_numbers (endsOf args Q) (args ++ List.replicate (2 - 1) .nil) := by
  obtain ⟨ns, rfl, hz, hq⟩ := h
  refine ⟨noOwn1 _, ?_⟩
  unfold w__law_of_numbers
  generalize hK : endsOf [.fro (.lst (ns.map .int))] Q = KD
  have hret : ∀ rs ρ, Canon rs → rs.length ≤ ns.length → (∀ x, In rs x ↔ x ∈ ns) → KD.rt (.fro (rsD rs)) ρ := fun rs ρ h1 h2 h3 => by subst hK; exact rtF [_] (hq rs h1 h2 h3)
  clear hK hq
  unfold wLc
  walk_at "dl"
  refine lc_map (wi := wSeqI (wVar 0)) twice _ (by rw [List.length_map]; omega) (fun d hd k1 k0 hk => ?_) ?_
  · obtain ⟨n, _, rfl⟩ := List.mem_map.mp hd
    walk_at "dl"
    exact ⟨by decide, hk⟩
  · have e : (ns.map D.int).map twice = (oneS ns).map pairD := by unfold oneS; rw [List.map_map, List.map_map]; rfl
    rw [e]
    walk_at "dl"
    refine ⟨oneS ns, rfl, fun p hp => ?_, by unfold oneS; rw [List.length_map]; exact hz, fun rs h1 h2 h3 => ?_⟩
    · obtain ⟨n, _, rfl⟩ := List.mem_map.mp hp
      exact Int.le_refl _
    · walk_at "dl"
      refine hret rs _ h1 (by unfold oneS at h2; rw [List.length_map] at h2; exact h2) fun x => ?_
      rw [h3 x, in_ones]
end Lw
namespace Lw
open PySem L2 Dl Rs
local macro_rules | `(tactic| walk_at "dl") => `(tactic| try simp (config := { maxSteps := 400000 }) only [wLstRg, wSetK, wUpd, gUpd, gDictP, gSortD, gMul2, lcBody, wipeD, back, Option.getD_some, wSeq, wIfS, wAnd, wOr, wNot, wRet, wDrop, wNext, wBrk, wCnt, wAndV, wOrV, wNotV, wB, wIf, wCB, wArgs, wVar, wC, wTup, wLst, wOp, wChain, wNeg, wSl, wP, wNoP, wSet, wPar, wAsg, wCall, wCallP, wCallN, wApp, wExt, wMt, gApp, gExt, wSetIx, wSeqI, wRng1, wRng2, wZip, wEnum, wFor, withL, lookL, lookD, with2, frz, frzL, prep, put, notLent, kindO, gTp, gNms, gNm, O.d, itemsOf, leave, endsOf, outsOf, clean, wYes, wK, CE.s, wDct0, wDct1, wRev, wRev2, wPop, wSortSet, wSortSet2, gEqNil, gNotB, wParN, wTupAsg, prepL, putL, wEnum2, wCallK, perm, gIsB, gRepr, List.getD_cons_zero, List.getD_cons_succ, wFg, wFgL, fgs, fg1, wFz, fzs, fz1, gTpG, gAllT, wTupS, wLstS, wArgsS, wLenSet, gIn_tup, gIn_lst, gNotIn_tup, gNotIn_lst, gEq_int, gNe_int, gEq_str, gNe_str,
    gI, gIC, Dl.gSub, gFdiv, gMod, gPow, gLt, gLe, gGt, gGe, gAdd, gMul, gIsN, gNotN, Dl.isNon, gIx, gSl, gLen, gAbs, gInt1, gMax2, gMin2, gTuple, gList, gIsi, atI_0, atI_1, atI_2, atI_m1, ixN_30, ixN_32,
    List.getElem?_cons_zero, List.getElem?_cons_succ, List.set_cons_zero, List.set_cons_succ, List.cons_append, List.nil_append, List.append_nil, List.replicate, List.length_cons, List.length_nil, List.map_cons, List.map_nil, Nat.reduceAdd, Nat.reduceSub, Nat.add_one_sub_one,
    true_and, and_true, if_true, if_false, Bool.false_eq_true, Bool.not_true, Bool.not_false, reduceIte, ite_true, ite_false, decide_true, decide_false])
theorem sub_len : ∀ {l L : List Int}, l.Nodup → (∀ x ∈ l, x ∈ L) → l.length ≤ L.length
  | [], _, _, _ => Nat.zero_le _
  | x :: l, L, nd, h => by
    rw [List.nodup_cons] at nd
    have hx := h x (by simp)
    have ih := sub_len (l := l) (L := L.erase x) nd.2 fun y hy => (List.mem_erase_of_ne fun e => nd.1 (by rw [← e]; exact hy)).mpr (h y (List.mem_cons_of_mem _ hy))
    rw [List.length_erase_of_mem hx] at ih
    have := List.length_pos_of_mem hx
    rw [List.length_cons]; omega
theorem canon_nodup : ∀ {rs : RS}, Canon rs → (rs.map (·.1)).Nodup
  | [], _ => List.nodup_nil
  | p :: rs, h => by
    rw [List.map_cons, List.nodup_cons]
    refine ⟨fun hm => ?_, canon_nodup h.tail⟩
    obtain ⟨q, hq, e⟩ := List.mem_map.mp hm
    have h1 := h.above (x := q.1) ⟨q, hq, Int.le_refl _, h.tail.ok q hq⟩
    have h2 := h.head
    omega
theorem canon_len {rs : RS} {L : List Int} (c : Canon rs) (h : ∀ x, In rs x → x ∈ L) : rs.length ≤ L.length := by
  have := sub_len (canon_nodup c) fun x hx => by
    obtain ⟨p, hp, rfl⟩ := List.mem_map.mp hx
    exact h p.1 ⟨p, hp, Int.le_refl _, c.ok p hp⟩
  rw [List.length_map] at this
  exact this
def between (lo : Int) (n : Nat) : List Int := (List.range n).map fun i : Nat => lo + (i : Int)
theorem mem_between {lo x : Int} {n : Nat} (h1 : lo ≤ x) (h2 : x < lo + n) : x ∈ between lo n := List.mem_map.mpr ⟨(x - lo).toNat, List.mem_range.mpr (by omega), by omega⟩
theorem canon_range {rs : RS} {lo : Int} {n : Nat} (c : Canon rs) (h : ∀ x, In rs x → lo ≤ x ∧ x < lo + n) : rs.length ≤ n := by
  have := canon_len (L := between lo n) c fun x hx => mem_between (h x hx).1 (h x hx).2
  unfold between at this
  rw [List.length_map, List.length_range] at this
  exact this
theorem within_in {rs : RS} {lo hi : Int} (h : Within lo hi rs) {x : Int} (hx : In rs x) : lo ≤ x ∧ x ≤ hi := by
  obtain ⟨p, hp, h1, h2⟩ := hx
  have := h p hp
  omega
theorem fine_rs {rs : RS} {n : Nat} (hn : rs.length ≤ n) (ho : Ok rs) (h : ∀ x, In rs x → x.natAbs < 2 ^ 250) : Fine (n * 3 + 1) 2 (rsD rs) := by
  refine fine_tup (w := 3) (dp := 1) (fun e he => ?_) (by rw [List.length_map]; exact hn)
  obtain ⟨p, hp, rfl⟩ := List.mem_map.mp he
  exact fine_pair (h _ ⟨p, hp, Int.le_refl _, ho p hp⟩) (h _ ⟨p, hp, ho p hp, Int.le_refl _⟩)
theorem repr_rs {rs : RS} (hn : rs.length ≤ 10000) (ho : Ok rs) (h : ∀ x, In rs x → x.natAbs < 2 ^ 250) : reprOk (rsD rs) := (fine_rs hn ho h).ok (by decide) (by decide)
theorem small250 {x : Int} (h : x.natAbs ≤ 2 ^ 100) : x.natAbs < 2 ^ 250 := Nat.lt_of_le_of_lt h (by decide)
theorem any_ap {n : Int} {o : O} {ds : List D} {Q : Dl.Slot → List Dl.Slot → Prop} (hp : Pot n o) (hn : n < 8000000) (h0 : ds ≠ []) (hl : ds.length < 1000000) (h : ∀ r o', r ∈ ds → Pot (n + 1) o' → Q (.fro r) [.own true o', .fro (.lst ds)]) : C__law_any [.own true o, .fro (.lst ds)] Q :=
  ⟨n, o, _, ds, rfl, .inl rfl, hp, hn, h0, hl, h⟩
theorem due_step {a rs : RS} {i : Nat} {Q : Dl.Slot → List Dl.Slot → Prop} (oa : Ok a) (la : a.length ≤ 1000) (c : Canon rs) (hl : rs.length ≤ 1000) (hi : ∀ x, In rs x ↔ SumsTo a i x)
    (h : ∀ rs', Canon rs' → (∀ x, In rs' x ↔ SumsTo a (i + 1) x) → rs'.length ≤ rs.length * a.length → Q (.fro (rsD rs')) [.fro (rsD rs), .fro (rsD a)]) : C__law_pairs_added [.fro (rsD rs), .fro (rsD a)] Q := by
  refine ⟨rs, a, rfl, c.ok, oa, by omega, la, Nat.le_trans (Nat.mul_le_mul hl la) (by decide), fun rs' c' l' h' => h rs' c' (fun x => ?_) l'⟩
  rw [h' x]
  constructor
  · rintro ⟨y, z, hy, hz, e⟩; exact ⟨y, z, (hi y).1 hy, hz, e⟩
  · rintro ⟨y, z, hy, hz, e⟩; exact ⟨y, z, (hi y).2 hy, hz, e⟩
structure SumOk (a : RS) (n : Nat) : Prop where
  ok : Ok a
  len : a.length ≤ 4
  many : n ≤ 20
  size : ∀ j, j ≤ n → ∀ rs : RS, Canon rs → rs.length ≤ a.length ^ j → (∀ x, In rs x ↔ SumsTo a j x) → rs.length ≤ 1000
  bnd : ∀ j, j ≤ n → ∀ x, SumsTo a j x → x.natAbs ≤ 2 ^ 100
theorem SumOk.call {a : RS} {n : Nat} (h : SumOk a n) {Q : Dl.Slot → List Dl.Slot → Prop} {j : Nat} (hj : j ≤ n) (hq : ∀ rs, Canon rs → rs.length ≤ 1000 → (∀ x, In rs x ↔ SumsTo a j x) → Q (.fro (rsD rs)) [.fro (rsD a), .fro (.int j)]) : C_sums [.fro (rsD a), .fro (.int j)] Q := by
  have hl := h.len
  have hm := h.many
  refine ⟨a, j, rfl, h.ok, by omega, by omega, fun i hi rs c l x => ?_, fun rs c l x => hq rs c (h.size j hj rs c l x) x⟩
  have h1 := h.size i (by omega) rs c l x
  exact ⟨by omega, Nat.le_trans (Nat.mul_le_mul h1 hl) (by decide)⟩
theorem SumOk.repr {a : RS} {n j : Nat} (h : SumOk a n) (hj : j ≤ n) {rs : RS} (c : Canon rs) (hl : rs.length ≤ 1000) (hi : ∀ x, In rs x ↔ SumsTo a j x) : reprOk (rsD rs) := repr_rs (by omega) c.ok fun x hx => small250 (h.bnd j hj x ((hi x).1 hx))
theorem SumOk.step {a : RS} {n i : Nat} (h : SumOk a n) (hi : i < n) {rs : RS} (c : Canon rs) (hl : rs.length ≤ 1000) (hp : rs.length ≤ a.length ^ i) (hx : ∀ x, In rs x ↔ SumsTo a i x) {Q : Dl.Slot → List Dl.Slot → Prop}
    (hq : ∀ rs' : RS, Canon rs' → rs'.length ≤ 1000 → rs'.length ≤ a.length ^ (i + 1) → (∀ x, In rs' x ↔ SumsTo a (i + 1) x) → Q (.fro (rsD rs')) [.fro (rsD rs), .fro (rsD a)]) : C__law_pairs_added [.fro (rsD rs), .fro (rsD a)] Q := by
  have h4 := h.len
  refine due_step h.ok (by omega) c hl hx fun rs' c' x' l' => ?_
  have h2 : rs'.length ≤ a.length ^ (i + 1) := by
    rw [Nat.pow_succ]
    exact Nat.le_trans l' (Nat.mul_le_mul_right _ hp)
  exact hq rs' c' (h.size (i + 1) (by omega) rs' c' h2 x') h2 x'
end Lw
namespace Lw
open PySem L2 Dl Rs
local macro_rules | `(tactic| walk_at "dl") => `(tactic| try simp (config := { maxSteps := 400000 }) only [wLstRg, wSetK, wUpd, gUpd, gDictP, gSortD, gMul2, kOfD, wAct1, wLam1, capt, lcBody, wipeD, back, Option.getD_some, wSeq, wIfS, wAnd, wOr, wNot, wRet, wDrop, wNext, wBrk, wCnt, wAndV, wOrV, wNotV, wB, wIf, wCB, wArgs, wVar, wC, wTup, wLst, wOp, wChain, wNeg, wSl, wP, wNoP, wSet, wPar, wAsg, wCall, wCallP, wCallN, wApp, wExt, wMt, gApp, gExt, wSetIx, wSeqI, wRng1, wRng2, wZip, wEnum, wFor, withL, lookL, lookD, with2, frz, frzL, prep, put, notLent, kindO, gTp, gNms, gNm, O.d, itemsOf, leave, endsOf, outsOf, clean, wYes, wK, CE.s, wDct0, wDct1, wRev, wRev2, wPop, wSortSet, wSortSet2, gEqNil, gNotB, wParN, wTupAsg, prepL, putL, wEnum2, wCallK, perm, gIsB, gRepr, List.getD_cons_zero, List.getD_cons_succ, wFg, wFgL, fgs, fg1, wFz, fzs, fz1, gTpG, gAllT, wTupS, wLstS, wArgsS, wLenSet, gIn_tup, gIn_lst, gNotIn_tup, gNotIn_lst, gEq_int, gNe_int, gEq_str, gNe_str,
    gI, gIC, Dl.gSub, gFdiv, gMod, gPow, gLt, gLe, gGt, gGe, gAdd, gMul, gIsN, gNotN, Dl.isNon, gIx, gSl, gLen, gAbs, gInt1, gMax2, gMin2, gTuple, gList, gIsi, atI_0, atI_1, atI_2, atI_m1, ixN_30, ixN_32,
    List.getElem?_cons_zero, List.getElem?_cons_succ, List.set_cons_zero, List.set_cons_succ, List.cons_append, List.nil_append, List.append_nil, List.replicate, List.length_cons, List.length_nil, List.map_cons, List.map_nil, Nat.reduceAdd, Nat.reduceSub, Nat.add_one_sub_one,
    true_and, and_true, if_true, if_false, Bool.false_eq_true, Bool.not_true, Bool.not_false, reduceIte, ite_true, ite_false, decide_true, decide_false])
def C__law_in : WE := fun args Q => ∃ (rs : RS) (x : Int), args = [.fro (rsD rs), .fro (.int x)] ∧ rs.length ≤ 1000 ∧ Q (.fro (.bl (inB rs x))) args
def ptsOf (rs : RS) : List Int := rs.flatMap fun p => [p.1, p.2 + 1]
theorem ptsOf_len (rs : RS) : (ptsOf rs).length = 2 * rs.length := by
  induction rs with
  | nil => rfl
  | cons p rs ih =>
    show (p.1 :: (p.2 + 1) :: ptsOf rs).length = _
    rw [List.length_cons, List.length_cons, List.length_cons, ih]; omega
def C__law_points : WE := fun args Q => ∃ a b : RS, args = [.fro (.lst [rsD a, rsD b])] ∧ a.length ≤ 8 ∧ b.length ≤ 8 ∧ ∀ pts : List Int, pts.Pairwise (· < ·) → (∀ x, x ∈ pts ↔ x ∈ ptsOf a ++ ptsOf b) → pts.length ≤ 40 → Q (.own false (.lst (pts.map .int))) args
def w__law_in : WS := (wRet (wCB gAny [(wLc (wSeqI (wVar 0)) (gTp [2, 3]) wYes (wChain gLe gLe (wVar 2) (wVar 1) (wVar 3)) [2, 3])]))
def wb__law_points_1 : WS := (wFgL [3, 4] [] (wFg [3, 4] (wDrop (wExt 1 (wLst [(wVar 3), (wOp gAdd (wVar 4) (wC (.int 1)))])))))
def wb__law_points_2 : WS := (wFgL [2, 3, 4] [] (wFg [2, 3, 4] (wFor (wSeqI (wVar 2)) (gTp [3, 4]) wb__law_points_1)))
def wr__law_points_3 : WS := (wRet (wSortSet (wVar 1)))
def wr__law_points_4 : WS := (wSeq (wFg [2, 3, 4] (wFz [1] (wFor (wSeqI (wVar 0)) (gNm 2) wb__law_points_2)))
  wr__law_points_3)
def w__law_points : WS := (wSeq (wSet 1 (wLst []))
  wr__law_points_4)
theorem ok__law_in (args : List Dl.Slot) (Q : Dl.Slot → List Dl.Slot → Prop) (hl : args.length = 2) (h : C__law_in args Q) : noOwn args ∧ w__law_in (endsOf args Q) (args ++ List.replicate (4 - 2) .nil) := by
  obtain ⟨rs, x, rfl, hz, hq⟩ := h
  refine ⟨noOwn2 _ _, ?_⟩
  unfold w__law_in wLc rsD
  walk_at "dl"
  have hP : ∀ d ∈ rs.map pairD, ∃ p : Int × Int, d = pairD p := fun d hd => by
    obtain ⟨p, _, rfl⟩ := List.mem_map.mp hd
    exact ⟨p, rfl⟩
  let f : D → D := fun d => match d with
    | .tup [.int a, .int b] => .bl (decide (a ≤ x) && decide (x ≤ b))
    | _ => .non
  refine lcl_all (f := f) (P := fun d => ∃ p : Int × Int, d = pairD p) 1000000 (Nat.le_refl _) (fun d hd acc k1 k0 hk => ?_) _ [] hP (by rw [List.length_map]; simp; omega) ?_
  · obtain ⟨p, rfl⟩ := hd
    unfold pairD
    walk_at "dl"
    have hk' : k1 (.bl (decide (p.1 ≤ x) && decide (x ≤ p.2))) [Slot.fro (D.tup (rs.map pairD)), Slot.fro (D.int x), Slot.nil, Slot.nil] := hk
    by_cases h1 : p.1 ≤ x
    · rw [decide_eq_true h1] at hk' ⊢
      exact hk'
    · rw [decide_eq_false h1] at hk' ⊢
      exact hk'
  · rw [List.nil_append, List.map_map]
    have e : boolsOf (rs.map (f ∘ pairD)) = some (rs.map fun p => decide (p.1 ≤ x) && decide (x ≤ p.2)) := boolsOf_map (fun p : Int × Int => decide (p.1 ≤ x) && decide (x ≤ p.2)) rs
    simp only [gAny, e]
    have e2 : (rs.map fun p => decide (p.1 ≤ x) && decide (x ≤ p.2)).any id = inB rs x := by unfold inB; rw [List.any_map]; rfl
    rw [e2]
    exact hq
theorem pts_loop {d : D} {KD : DEnds} {x2 : D} : ∀ (rs : RS) (F : List Int), F.length + 2 * rs.length ≤ 100 → KD.nx [.fro d, .own false (.lst ((F ++ ptsOf rs).map .int)), .fro x2, .nil, .nil] →
    loop (gTp [3, 4]) wb__law_points_1 KD (rs.map pairD) [.fro d, .own false (.lst (F.map .int)), .fro x2, .nil, .nil]
  | [], F, _, h => by
    rw [show F ++ ptsOf [] = F from List.append_nil F] at h
    exact h
  | p :: rs, F, hz, h => by
    rw [List.map_cons]
    unfold loop
    generalize hL : loop (gTp [3, 4]) wb__law_points_1 KD (rs.map pairD) = L
    unfold wb__law_points_1 pairD
    walk_at "dl"
    rw [List.length_cons] at hz
    refine ⟨⟨_, _, rfl, rfl⟩, by decide, ?_⟩
    subst hL
    have e : F.map D.int ++ [.int p.1, .int (p.2 + 1)] = (F ++ [p.1, p.2 + 1]).map .int := by rw [List.map_append]; rfl
    rw [e]
    refine ⟨by rw [List.length_map]; exact big _ (by omega), ?_⟩
    refine pts_loop rs (F ++ [p.1, p.2 + 1]) (by rw [List.length_append, show ([p.1, p.2 + 1] : List Int).length = 2 from rfl]; omega) ?_
    rw [List.append_assoc]
    exact h
theorem ok__law_points (args : List Dl.Slot) (Q : Dl.Slot → List Dl.Slot → Prop) (hl : args.length = 1) (h : C__law_points args Q) : noOwn args ∧ w__law_points (endsOf args Q) (args ++ List.replicate (5 - 1) .nil) := by
  obtain ⟨a, b, rfl, ha, hb, hq⟩ := h
  refine ⟨noOwn1 _, ?_⟩
  unfold w__law_points
  generalize hK : endsOf [Slot.fro (.lst [rsD a, rsD b])] Q = KD
  have hret : ∀ pts : List Int, ∀ ρ, pts.Pairwise (· < ·) → (∀ x, x ∈ pts ↔ x ∈ ptsOf a ++ ptsOf b) → pts.length ≤ 40 → KD.rt (.own false (.lst (pts.map .int))) (Slot.fro (.lst [rsD a, rsD b]) :: ρ) := fun pts ρ h1 h2 h3 => by subst hK; exact hq pts h1 h2 h3
  clear hK hq
  have la := ptsOf_len a
  have lb := ptsOf_len b
  generalize hW : wr__law_points_4 = W
  walk_at "dl"
  refine ⟨by decide, ?_⟩
  subst hW
  unfold wr__law_points_4
  generalize hW : wr__law_points_3 = W
  walk_at "dl"
  unfold loop
  generalize hL : loop _ _ _ _ = L
  unfold wb__law_points_2 rsD
  walk_at "dl"
  refine pts_loop a [] (by simp; omega) ?_
  subst hL
  walk_at "dl"
  unfold loop
  generalize hL : loop _ _ _ _ = L
  unfold wb__law_points_2 rsD
  walk_at "dl"
  refine pts_loop b (ptsOf a) (by omega) ?_
  subst hL
  walk_at "dl"
  unfold loop
  walk_at "dl"
  subst hW
  unfold wr__law_points_3 wSortSet
  walk_at "dl"
  refine ⟨_, rfl, by rw [List.length_append]; omega, fun ms h1 h2 h3 => ?_⟩
  exact hret ms _ h1 h2 (by rw [List.length_append] at h3; omega)
end Lw
namespace Lw
open PySem L2 Dl Rs
local macro_rules | `(tactic| walk_at "dl") => `(tactic| try simp (config := { maxSteps := 400000 }) only [wLstRg, wSetK, wUpd, gUpd, gDictP, gSortD, gMul2, kOfD, wAct1, wLam1, capt, lcBody, wipeD, back, Option.getD_some, wSeq, wIfS, wAnd, wOr, wNot, wRet, wDrop, wNext, wBrk, wCnt, wAndV, wOrV, wNotV, wB, wIf, wCB, wArgs, wVar, wC, wTup, wLst, wOp, wChain, wNeg, wSl, wP, wNoP, wSet, wPar, wAsg, wCall, wCallP, wCallN, wApp, wExt, wMt, gApp, gExt, wSetIx, wSeqI, wRng1, wRng2, wZip, wEnum, wFor, withL, lookL, lookD, with2, frz, frzL, prep, put, notLent, kindO, gTp, gNms, gNm, O.d, itemsOf, leave, endsOf, outsOf, clean, wYes, wK, CE.s, wDct0, wDct1, wRev, wRev2, wPop, wSortSet, wSortSet2, gEqNil, gNotB, wParN, wTupAsg, prepL, putL, wEnum2, wCallK, perm, gIsB, gRepr, List.getD_cons_zero, List.getD_cons_succ, wFg, wFgL, fgs, fg1, wFz, fzs, fz1, gTpG, gAllT, wTupS, wLstS, wArgsS, wLenSet, gIn_tup, gIn_lst, gNotIn_tup, gNotIn_lst, gEq_int, gNe_int, gEq_str, gNe_str,
    gI, gIC, Dl.gSub, gFdiv, gMod, gPow, gLt, gLe, gGt, gGe, gAdd, gMul, gIsN, gNotN, Dl.isNon, gIx, gSl, gLen, gAbs, gInt1, gMax2, gMin2, gTuple, gList, gIsi, atI_0, atI_1, atI_2, atI_m1, ixN_30, ixN_32,
    List.getElem?_cons_zero, List.getElem?_cons_succ, List.set_cons_zero, List.set_cons_succ, List.cons_append, List.nil_append, List.append_nil, List.replicate, List.length_cons, List.length_nil, List.map_cons, List.map_nil, Nat.reduceAdd, Nat.reduceSub, Nat.add_one_sub_one,
    true_and, and_true, if_true, if_false, Bool.false_eq_true, Bool.not_true, Bool.not_false, reduceIte, ite_true, ite_false, decide_true, decide_false])
def MadeOf (pts : List Int) (f : Int → Bool) (i : Nat) (x : Int) : Prop := ∃ j lo hi, j < i ∧ pts[j]? = some lo ∧ pts[j + 1]? = some hi ∧ lo ≤ x ∧ x < hi ∧ f lo = true
theorem made_succ {pts : List Int} {f : Int → Bool} {i : Nat} {lo hi x : Int} (h1 : pts[i]? = some lo) (h2 : pts[i + 1]? = some hi) : MadeOf pts f (i + 1) x ↔ MadeOf pts f i x ∨ (lo ≤ x ∧ x < hi ∧ f lo = true) := by
  constructor
  · rintro ⟨j, a, b, hj, e1, e2, q1, q2, q3⟩
    by_cases hji : j = i
    · subst hji
      rw [h1] at e1; rw [h2] at e2; cases e1; cases e2
      exact .inr ⟨q1, q2, q3⟩
    · exact .inl ⟨j, a, b, by omega, e1, e2, q1, q2, q3⟩
  · rintro (⟨j, a, b, hj, e1, e2, q1, q2, q3⟩ | ⟨q1, q2, q3⟩)
    · exact ⟨j, a, b, by omega, e1, e2, q1, q2, q3⟩
    · exact ⟨i, lo, hi, by omega, h1, h2, q1, q2, q3⟩
def C__law_made : LamP → D → (Dl.Slot → Prop) → Prop := fun L p Q => ∃ (pts : List Int) (f : Int → Bool), p = .lst (pts.map .int) ∧ pts.Pairwise (· < ·) ∧ pts.length ≤ 40 ∧ (∀ (x : Int) (k : Dl.Slot → Prop), k (.fro (.bl (f x))) → L (.int x) k) ∧
  ∀ rs : RS, Canon rs → rs.length ≤ 40 → (∀ x, In rs x ↔ MadeOf pts f (pts.length - 1) x) → Q (.fro (rsD rs))
def wr__law_made_1 (d : D) (L : LamP) : WS := (wFg [4, 5] (wIfS (wAnd (wB (wAct1 1 d L (wVar 4))) (wAnd (wB (wOp gNe (wVar 2) (wLst []))) (wB (wOp gEq (wOp gIx (wOp gIx (wVar 2) (wNeg (wC (.int 1)))) (wC (.int 1))) (wOp gSub (wVar 4) (wC (.int 1))))))) (wFg [5] (wSetIx 2 (wNeg (wC (.int 1))) (wTup [(wOp gIx (wOp gIx (wVar 2) (wNeg (wC (.int 1)))) (wC (.int 0))), (wVar 5)]))) (wFg [4, 5] (wIfS (wB (wAct1 1 d L (wVar 4))) (wFg [4, 5] (wDrop (wApp 2 (wTup [(wVar 4), (wVar 5)])))) wNext))))
def wb__law_made_2 (d : D) (L : LamP) : WS := (wFgL [3, 4, 5] [] (wSeq (wFg [3] (wPar 4 5 (wOp gIx (wVar 0) (wVar 3)) (wOp gSub (wOp gIx (wVar 0) (wOp gAdd (wVar 3) (wC (.int 1)))) (wC (.int 1)))))
  (wr__law_made_1 d L)))
def wr__law_made_3 (d : D) (L : LamP) : WS := (wRet (wCB gTuple [(wVar 2)]))
def wr__law_made_4 (d : D) (L : LamP) : WS := (wSeq (wFg [3, 4, 5] (wFz [2] (wFor (wRng1 [(wOp gSub (wCB gLen [(wVar 0)]) (wC (.int 1)))]) (gNm 3) (wb__law_made_2 d L))))
  (wr__law_made_3 d L))
def w__law_made (d : D) (L : LamP) : WS := (wSeq (wSet 2 (wLst []))
  (wr__law_made_4 d L))
theorem made_ext {fs : RS} {s e hi : Int} (h : Canon (fs ++ [(s, e)])) (he : e ≤ hi) : Canon (fs ++ [(s, hi)]) ∧ ∀ x, In (fs ++ [(s, hi)]) x ↔ In (fs ++ [(s, e)]) x ∨ (e < x ∧ x ≤ hi) := by
  have hse : s ≤ e := h.ok (s, e) (by simp)
  have hg := List.pairwise_append.mp h.gap
  refine ⟨canon_snoc ⟨fun q hq => h.ok q (List.mem_append_left _ hq), hg.1⟩ (show s ≤ hi by omega) fun q hq => hg.2.2 q hq (s, e) (by simp), fun x => ?_⟩
  rw [in_append, in_append, in_cons, in_cons]
  have n : ¬ In [] x := In.nil
  constructor
  · rintro (z | z | z)
    · exact .inl (.inl z)
    · by_cases hx : x ≤ e
      · exact .inl (.inr (.inl ⟨z.1, hx⟩))
      · exact .inr ⟨by show e < x; omega, z.2⟩
    · exact absurd z n
  · rintro ((z | z | z) | z)
    · exact .inl z
    · exact .inr (.inl ⟨z.1, by show x ≤ hi; have : x ≤ e := z.2; omega⟩)
    · exact absurd z n
    · exact .inr (.inl ⟨by show s ≤ x; omega, z.2⟩)
structure MadeI (pts : List Int) (f : Int → Bool) (i : Nat) (fs : RS) : Prop where
  c : Canon fs
  l : fs.length ≤ i
  m : ∀ x, In fs x ↔ MadeOf pts f i x
  b : ∀ q ∈ fs, ∀ lo, pts[i]? = some lo → q.2 < lo
theorem MadeI.skip {pts : List Int} {f : Int → Bool} {i : Nat} {fs : RS} {lo hi : Int} (h : MadeI pts f i fs) (h1 : pts[i]? = some lo) (h2 : pts[i + 1]? = some hi) (hlt : lo < hi) (hf : f lo = false) : MadeI pts f (i + 1) fs :=
  ⟨h.c, Nat.le_succ_of_le h.l, fun x => by rw [made_succ h1 h2, h.m x, hf]; simp, fun q hq l' e => by
    rw [h2] at e; cases e
    have := h.b q hq lo h1
    omega⟩
theorem MadeI.app {pts : List Int} {f : Int → Bool} {i : Nat} {fs : RS} {lo hi : Int} (h : MadeI pts f i fs) (h1 : pts[i]? = some lo) (h2 : pts[i + 1]? = some hi) (hlt : lo < hi) (hf : f lo = true) (hg : ∀ q ∈ fs, q.2 + 1 < lo) : MadeI pts f (i + 1) (fs ++ [(lo, hi - 1)]) :=
  ⟨canon_snoc h.c (show lo ≤ hi - 1 by omega) hg, by rw [List.length_append, List.length_singleton]; have := h.l; omega, fun x => by
    rw [made_succ h1 h2, in_append, in_cons, h.m x, hf]
    have n : ¬ In [] x := In.nil
    constructor
    · rintro (z | z | z)
      · exact .inl z
      · have a1 : lo ≤ x := z.1
        have a2 : x ≤ hi - 1 := z.2
        exact .inr ⟨a1, by omega, rfl⟩
      · exact absurd z n
    · rintro (z | z)
      · exact .inl z
      · exact .inr (.inl ⟨z.1, by show x ≤ hi - 1; omega⟩), fun q hq l' e => by
    rw [h2] at e; cases e
    rcases List.mem_append.mp hq with z | z
    · have := hg q z; omega
    · rw [List.mem_singleton.mp z]; show hi - 1 < hi; omega⟩
theorem MadeI.ext {pts : List Int} {f : Int → Bool} {i : Nat} {fs : RS} {s e lo hi : Int} (h : MadeI pts f i (fs ++ [(s, e)])) (h1 : pts[i]? = some lo) (h2 : pts[i + 1]? = some hi) (hlt : lo < hi) (hf : f lo = true) (he : e = lo - 1) : MadeI pts f (i + 1) (fs ++ [(s, hi - 1)]) := by
  obtain ⟨c, m⟩ := made_ext (hi := hi - 1) h.c (by omega)
  refine ⟨c, by have := h.l; rw [List.length_append, List.length_singleton] at this ⊢; omega, fun x => ?_, fun q hq l' e' => ?_⟩
  · rw [m x, made_succ h1 h2, h.m x, hf]
    constructor
    · rintro (z | z)
      · exact .inl z
      · exact .inr ⟨by omega, by omega, rfl⟩
    · rintro (z | z)
      · exact .inl z
      · exact .inr ⟨by omega, by omega⟩
  · rw [h2] at e'; cases e'
    rcases List.mem_append.mp hq with z | z
    · have := h.b q (List.mem_append_left _ z) lo h1; omega
    · rw [List.mem_singleton.mp z]; show hi - 1 < hi; omega
theorem made_step {KD : DEnds} {d : D} {L : LamP} {pts : List Int} {f : Int → Bool} {i : Nat} {fs : RS} {lo hi : Int} (hf : ∀ (x : Int) (k : Dl.Slot → Prop), k (.fro (.bl (f x))) → L (.int x) k) (hm : MadeI pts f i fs) (hz : fs.length ≤ 100) (e1 : pts[i]? = some lo) (e2 : pts[i + 1]? = some hi) (hlt : lo < hi)
    (hk : ∀ fs' : RS, MadeI pts f (i + 1) fs' → KD.nx [.fro (.lst (pts.map .int)), .fro d, .own false (.lst (fs'.map pairD)), .nil, .nil, .nil]) :
    wb__law_made_2 d L KD [.fro (.lst (pts.map .int)), .fro d, .own false (.lst (fs.map pairD)), .fro (.int (0 + (i : Int))), .nil, .nil] := by
  unfold wb__law_made_2
  generalize hW : wr__law_made_1 d L = W
  walk_at "dl"
  generalize hKD : DEnds.mk _ _ _ _ = KB
  have hkb : ∀ ρ, KD.nx (fgs [3, 4, 5] ρ) → KB.nx ρ := fun ρ h => by subst hKD; exact h
  clear hKD
  have a1 : atI (pts.map D.int) (0 + (i : Int)) = some (.int lo) := by
    rw [Int.zero_add]
    exact atI_nat (j := i) (by rw [List.getElem?_map, e1]; rfl)
  have a2 : atI (pts.map D.int) (0 + (i : Int) + 1) = some (.int hi) := by
    rw [Int.zero_add]
    exact atI_nat (j := i + 1) (by rw [List.getElem?_map, e2]; rfl)
  rw [a1, a2]
  walk_at "dl"
  subst hW
  unfold wr__law_made_1
  walk_at "dl"
  cases hl : f lo with
  | false =>
    refine hf lo _ ?_
    rw [hl]
    walk_at "dl"
    refine hf lo _ ?_
    rw [hl]
    walk_at "dl"
    exact hkb _ (hk fs (hm.skip e1 e2 hlt hl))
  | true =>
    refine hf lo _ ?_
    rw [hl]
    walk_at "dl"
    refine ⟨by decide, ?_⟩
    rw [gNe_pairs_nil]
    rcases List.eq_nil_or_concat fs with rfl | ⟨gs, ⟨s, e⟩, hgs⟩
    · walk_at "dl"
      refine hf lo _ ?_
      rw [hl]
      walk_at "dl"
      refine ⟨⟨_, _, rfl, rfl⟩, by decide, by decide, ?_⟩
      exact hkb _ (hk [(lo, hi - 1)] (hm.app e1 e2 hlt hl fun _ z => (nomatch z)))
    · rw [List.concat_eq_append] at hgs
      subst hgs
      rw [decide_eq_false (by simp)]
      walk_at "dl"
      rw [last_pair]
      walk_at "dl"
      by_cases he : e = lo - 1
      · rw [if_pos (decide_eq_true he)]
        refine ⟨by decide, ⟨_, _, rfl⟩, ?_⟩
        rw [List.length_map, ixN_last (by simp)]
        show KB.nx _
        have em := set_last gs (s, e) (s, hi - 1)
        rw [show pairD (s, hi - 1) = .tup [.int s, .int (hi - 1)] from rfl] at em
        rw [em]
        exact hkb _ (hk _ (hm.ext e1 e2 hlt hl he))
      · rw [if_neg (by rw [decide_eq_false he]; exact Bool.false_ne_true)]
        refine hf lo _ ?_
        rw [hl]
        walk_at "dl"
        refine ⟨⟨_, _, rfl, rfl⟩, by decide, by rw [List.length_map]; exact Nat.lt_of_le_of_lt hz (by decide), ?_⟩
        have em : (gs ++ [(s, e)]).map pairD ++ [D.tup [D.int lo, D.int (hi - 1)]] = ((gs ++ [(s, e)]) ++ [(lo, hi - 1)]).map pairD := by rw [List.map_append (l₁ := gs ++ [(s, e)])]; rfl
        rw [em]
        refine hkb _ (hk _ (hm.app e1 e2 hlt hl fun q hq => ?_))
        have hb := hm.b (s, e) (by simp) lo e1
        have hse : s ≤ e := hm.c.ok (s, e) (by simp)
        have hb : e < lo := hb
        rcases List.mem_append.mp hq with z | z
        · have := (List.pairwise_append.mp hm.c.gap).2.2 q z (s, e) (by simp)
          have this : q.2 + 1 < s := this
          omega
        · rw [List.mem_singleton.mp z]
          show e + 1 < lo
          omega
theorem ok__law_made (d : D) (L : LamP) (p : D) (Q : Dl.Slot → Prop) (h : C__law_made L p Q) : w__law_made d L (endsOf [.fro p, .fro d] fun s _ => Q s) ([.fro p, .fro d] ++ List.replicate (6 - 2) .nil) := by
  obtain ⟨pts, f, rfl, hs, hz, hf, hq⟩ := h
  unfold w__law_made
  generalize hK : endsOf [.fro (.lst (pts.map .int)), .fro d] (fun s _ => Q s) = KD
  have hret : ∀ (rs : RS) (ρ : List Dl.Slot), Canon rs → rs.length ≤ 40 → (∀ x, In rs x ↔ MadeOf pts f (pts.length - 1) x) → KD.rt (.fro (rsD rs)) (.fro (.lst (pts.map .int)) :: .fro d :: ρ) := fun rs ρ a b c => by subst hK; exact hq rs a b c
  clear hK hq
  generalize hW : wr__law_made_4 d L = W
  walk_at "dl"
  refine ⟨by decide, ?_⟩
  subst hW
  unfold wr__law_made_4
  generalize hW : wr__law_made_3 d L = W
  walk_at "dl"
  rw [List.length_map]
  refine ⟨by omega, by omega, ?_⟩
  have hn : ((pts.length : Int) - 1).toNat = pts.length - 1 := by omega
  refine loop_rng 0 _ (fun i ρ => ∃ fs : RS, ρ = [.fro (.lst (pts.map .int)), .fro d, .own false (.lst (fs.map pairD)), .nil, .nil, .nil] ∧ MadeI pts f i fs) (fun ρ ⟨fs, e, hi⟩ => ?_) (fun i ρ K hi ⟨fs, e, hm⟩ hL => ?_) _ ⟨[], rfl, Canon.nil, Nat.le_refl _, fun x => ⟨fun z => absurd z In.nil, fun ⟨_, _, _, z, _⟩ => absurd z (Nat.not_lt_zero _)⟩, fun _ z => (nomatch z)⟩
  · subst e
    rw [hn] at hi
    walk_at "dl"
    subst hW
    unfold wr__law_made_3
    walk_at "dl"
    exact hret fs _ hi.c (by have := hi.l; omega) hi.m
  · subst e
    clear hW
    have hi1 : i + 1 < pts.length := by omega
    have e1 : pts[i]? = some pts[i] := List.getElem?_eq_getElem (by omega)
    have e2 : pts[i + 1]? = some pts[i + 1] := List.getElem?_eq_getElem hi1
    have hlt : pts[i] < pts[i + 1] := List.pairwise_iff_getElem.mp hs i (i + 1) (by omega) hi1 (by omega)
    generalize pts[i] = lo at e1 hlt
    generalize pts[i + 1] = hi at e2 hlt
    generalize hB : wb__law_made_2 d L = WB
    walk_at "dl"
    subst hB
    exact made_step hf hm (by have := hm.l; omega) e1 e2 hlt fun fs' h' => hL _ ⟨fs', rfl, h'⟩
end Lw
namespace Lw
open PySem L2 Dl Rs
local macro_rules | `(tactic| walk_at "dl") => `(tactic| try simp (config := { maxSteps := 400000 }) only [wLstRg, wSetK, wUpd, gUpd, gDictP, gSortD, gMul2, kOfD, wAct1, wLam1, capt, lcBody, wipeD, back, Option.getD_some, wSeq, wIfS, wAnd, wOr, wNot, wRet, wDrop, wNext, wBrk, wCnt, wAndV, wOrV, wNotV, wB, wIf, wCB, wArgs, wVar, wC, wTup, wLst, wOp, wChain, wNeg, wSl, wP, wNoP, wSet, wPar, wAsg, wCall, wCallP, wCallN, wApp, wExt, wMt, gApp, gExt, wSetIx, wSeqI, wRng1, wRng2, wZip, wEnum, wFor, withL, lookL, lookD, with2, frz, frzL, prep, put, notLent, kindO, gTp, gNms, gNm, O.d, itemsOf, leave, endsOf, outsOf, clean, wYes, wK, CE.s, wDct0, wDct1, wRev, wRev2, wPop, wSortSet, wSortSet2, gEqNil, gNotB, wParN, wTupAsg, prepL, putL, wEnum2, wCallK, perm, gIsB, gRepr, List.getD_cons_zero, List.getD_cons_succ, wFg, wFgL, fgs, fg1, wFz, fzs, fz1, gTpG, gAllT, wTupS, wLstS, wArgsS, wLenSet, gIn_tup, gIn_lst, gNotIn_tup, gNotIn_lst, gEq_int, gNe_int, gEq_str, gNe_str,
    gI, gIC, Dl.gSub, gFdiv, gMod, gPow, gLt, gLe, gGt, gGe, gAdd, gMul, gIsN, gNotN, Dl.isNon, gIx, gSl, gLen, gAbs, gInt1, gMax2, gMin2, gTuple, gList, gIsi, atI_0, atI_1, atI_2, atI_m1, ixN_30, ixN_32,
    List.getElem?_cons_zero, List.getElem?_cons_succ, List.set_cons_zero, List.set_cons_succ, List.cons_append, List.nil_append, List.append_nil, List.replicate, List.length_cons, List.length_nil, List.map_cons, List.map_nil, Nat.reduceAdd, Nat.reduceSub, Nat.add_one_sub_one,
    true_and, and_true, if_true, if_false, Bool.false_eq_true, Bool.not_true, Bool.not_false, reduceIte, ite_true, ite_false, decide_true, decide_false])
def C__law_pair : WE := fun args Q => ∃ (n : Int) (o : O), args = [.own true o] ∧ Pot n o ∧ n + 100 < 6000000 ∧ ∀ (a b : RS) (far : Int) (o' : O), Canon a → Canon b → a.length ≤ 6 → b.length ≤ 6 → Within (-far) far a → Within (-far) far b → 8 ≤ far → far ≤ 10 ^ 12 → Pot (n + 60) o' → Q (.fro (.tup [rsD a, rsD b, .bl (decide (far < 100))])) [.own true o']
def wr__law_pair_1 : WS := (wRet (wTup [(wVar 2), (wVar 3), (wOp gLt (wVar 1) (wC (.int 100)))]))
def wr__law_pair_2 : WS := (wSeq (wFz [3] (wSet 3 (wCallP C__law_any 0 [(wLst [(wCallP C__law_spans 0 [(wC (.int 6)), (wOp gSub (wC (.int 0)) (wVar 1)), (wVar 1)]), (wCallP C__law_spans 0 [(wC (.int 6)), (wC (.int 0)), (wVar 1)]), (wVar 2), (wSl (wVar 2) (wP (wC (.int 1))) wNoP), (wTup [])])])))
  wr__law_pair_1)
def wr__law_pair_3 : WS := (wSeq (wFz [2] (wSet 2 (wCallP C__law_spans 0 [(wC (.int 6)), (wOp gSub (wC (.int 0)) (wVar 1)), (wVar 1)])))
  wr__law_pair_2)
def w__law_pair : WS := (wSeq (wFz [1] (wSet 1 (wCallP C__law_any 0 [(wLst [(wC (.int 8)), (wC (.int 25)), (wC (.int 9999)), (wOp gPow (wC (.int 10)) (wC (.int 12)))])])))
  wr__law_pair_3)
theorem within_wide {lo hi lo' hi' : Int} {rs : RS} (h : Within lo hi rs) (h1 : lo' ≤ lo) (h2 : hi ≤ hi') : Within lo' hi' rs := fun p hp => by
  have := h p hp
  exact ⟨by omega, by omega⟩
theorem canon_drop {rs : RS} (h : Canon rs) : Canon (rs.drop 1) := by
  cases rs with
  | nil => exact h
  | cons p rs => exact h.tail
theorem cutFromK (xs : List D) (k : Nat) : cutD xs (some (k : Int)) none = xs.drop k := by
  unfold cutD
  rw [HT.sIx_nat, HT.sIx_none]
  by_cases h : k ≤ xs.length
  · rw [Nat.min_eq_left h, List.take_of_length_le (by rw [List.length_drop]; exact Nat.le_refl _)]
  · rw [Nat.min_eq_right (by omega), List.drop_of_length_le (Nat.le_refl _), List.drop_of_length_le (by omega)]
    exact List.take_nil
theorem ok__law_pair (args : List Dl.Slot) (Q : Dl.Slot → List Dl.Slot → Prop) (hl : args.length = 1) (h : C__law_pair args Q) : noOwn args ∧ w__law_pair (endsOf args Q) (args ++ List.replicate (4 - 1) .nil) := by
  obtain ⟨n, o, rfl, hp, hn, hq⟩ := h
  refine ⟨noOwnT1, ?_⟩
  unfold w__law_pair
  generalize hK : endsOf [.own true o] Q = KD
  have hret : ∀ (a b : RS) (far : Int) (o' : O) (ρ : List Dl.Slot), Canon a → Canon b → a.length ≤ 6 → b.length ≤ 6 → Within (-far) far a → Within (-far) far b → 8 ≤ far → far ≤ 10 ^ 12 → Pot (n + 60) o' → KD.rt (.fro (.tup [rsD a, rsD b, .bl (decide (far < 100))])) (.own true o' :: ρ) := fun a b far o' ρ h1 h2 h3 h4 h5 h6 h7 h8 h9 => by subst hK; exact hq a b far o' h1 h2 h3 h4 h5 h6 h7 h8 h9
  clear hK hq
  generalize hW : wr__law_pair_3 = W
  walk_at "dl"
  refine ⟨⟨_, _, rfl⟩, powB 4 (by decide) (by decide) (by decide), by decide, any_ap hp (by omega) (by simp) (by simp) fun d o1 hd hp1 => ?_⟩
  obtain ⟨far, rfl, h0, h1⟩ : ∃ far : Int, d = .int far ∧ 8 ≤ far ∧ far ≤ 10 ^ 12 := by
    simp only [List.mem_cons, List.not_mem_nil, or_false] at hd
    rcases hd with rfl | rfl | rfl | rfl
    · exact ⟨8, rfl, by decide, by decide⟩
    · exact ⟨25, rfl, by decide, by decide⟩
    · exact ⟨9999, rfl, by decide, by decide⟩
    · exact ⟨10 ^ 12, rfl, by decide, by decide⟩
  clear hd
  walk_at "dl"
  subst hW
  unfold wr__law_pair_3
  generalize hW : wr__law_pair_2 = W
  walk_at "dl"
  rw [Int.zero_sub]
  have hb : -(2 ^ 150 : Int) < -far := Int.lt_of_lt_of_le (b := -(10 ^ 12)) (by decide) (by omega)
  have hb2 : far < 2 ^ 150 := Int.lt_of_le_of_lt h1 (by decide)
  refine ⟨⟨_, _, rfl⟩, ?_⟩
  refine spans_ap (most := 6) rfl hp1 (by omega) (by decide) (by omega) hb hb2 fun a o2 ca la wa hp2 => ?_
  walk_at "dl"
  subst hW
  unfold wr__law_pair_2
  generalize hW : wr__law_pair_1 = W
  walk_at "dl"
  rw [Int.zero_sub]
  refine ⟨⟨_, _, rfl⟩, ⟨_, _, rfl⟩, ?_⟩
  refine spans_ap (most := 6) rfl hp2 (by omega) (by decide) (by omega) hb hb2 fun b o3 cb lb wb hp3 => ?_
  walk_at "dl"
  refine ⟨⟨_, _, rfl⟩, ?_⟩
  refine spans_ap (most := 6) rfl hp3 (by omega) (by decide) (by omega) (by decide) hb2 fun c o4 cc lc wc hp4 => ?_
  walk_at "dl"
  have ea : rsD a = .tup (a.map pairD) := rfl
  rw [ea]
  walk_at "dl"
  have ed : cutD (a.map pairD) (some 1) none = (a.drop 1).map pairD := by
    rw [List.map_drop]
    exact cutFromK _ 1
  rw [ed]
  refine ⟨by decide, by decide, any_ap hp4 (by omega) (by simp) (by simp) fun d o5 hd hp5 => ?_⟩
  obtain ⟨e, rfl, he, le, we⟩ : ∃ e : RS, d = rsD e ∧ Canon e ∧ e.length ≤ 6 ∧ Within (-far) far e := by
    simp only [List.mem_cons, List.not_mem_nil, or_false] at hd
    rcases hd with rfl | rfl | rfl | rfl | rfl
    · exact ⟨b, rfl, cb, lb, wb⟩
    · exact ⟨c, rfl, cc, lc, within_wide wc (by omega) (Int.le_refl _)⟩
    · exact ⟨a, rfl, ca, la, wa⟩
    · exact ⟨a.drop 1, rfl, canon_drop ca, by rw [List.length_drop]; omega, fun p hp => wa p (List.mem_of_mem_drop hp)⟩
    · exact ⟨[], rfl, Canon.nil, by decide, fun _ z => (nomatch z)⟩
  walk_at "dl"
  subst hW
  unfold wr__law_pair_1
  walk_at "dl"
  refine ⟨by decide, ?_⟩
  exact hret a e far o5 _ ca he la le wa we h0 h1 (hp5.mono (by omega))
end Lw
namespace Lw
open PySem L2 Dl Rs
local macro_rules | `(tactic| walk_at "dl") => `(tactic| try simp (config := { maxSteps := 400000 }) only [wLstRg, wSetK, wUpd, gUpd, gDictP, gSortD, gMul2, kOfD, wAct1, wLam1, capt, viewL, lcBody, wipeD, back, Option.getD_some, wSeq, wIfS, wAnd, wOr, wNot, wRet, wDrop, wNext, wBrk, wCnt, wAndV, wOrV, wNotV, wB, wIf, wCB, wArgs, wVar, wC, wTup, wLst, wOp, wChain, wNeg, wSl, wP, wNoP, wSet, wPar, wAsg, wCall, wCallP, wCallN, wApp, wExt, wMt, gApp, gExt, wSetIx, wSeqI, wRng1, wRng2, wZip, wEnum, wFor, withL, lookL, lookD, with2, frz, frzL, prep, put, notLent, kindO, gTp, gNms, gNm, O.d, itemsOf, leave, endsOf, outsOf, clean, wYes, wK, CE.s, wDct0, wDct1, wRev, wRev2, wPop, wSortSet, wSortSet2, gEqNil, gNotB, wParN, wTupAsg, prepL, putL, wEnum2, wCallK, perm, gIsB, gRepr, List.getD_cons_zero, List.getD_cons_succ, wFg, wFgL, fgs, fg1, wFz, fzs, fz1, gTpG, gAllT, wTupS, wLstS, wArgsS, wLenSet, gIn_tup, gIn_lst, gNotIn_tup, gNotIn_lst, gEq_int, gNe_int, gEq_str, gNe_str,
    gI, gIC, Dl.gSub, gFdiv, gMod, gPow, gLt, gLe, gGt, gGe, gAdd, gMul, gIsN, gNotN, Dl.isNon, gIx, gSl, gLen, gAbs, gInt1, gMax2, gMin2, gTuple, gList, gIsi, atI_0, atI_1, atI_2, atI_m1, ixN_30, ixN_32,
    List.getElem?_cons_zero, List.getElem?_cons_succ, List.set_cons_zero, List.set_cons_succ, List.cons_append, List.nil_append, List.append_nil, List.replicate, List.length_cons, List.length_nil, List.map_cons, List.map_nil, Nat.reduceAdd, Nat.reduceSub, Nat.add_one_sub_one,
    true_and, and_true, if_true, if_false, Bool.false_eq_true, Bool.not_true, Bool.not_false, reduceIte, ite_true, ite_false, decide_true, decide_false])
def C__law_due : WE := fun args Q => ∃ (a b : RS) (far : Int), args = [.fro (rsD a), .fro (rsD b), .fro (.bl (decide (far < 100)))] ∧ Canon a ∧ Canon b ∧ a.length ≤ 6 ∧ b.length ≤ 6 ∧ Within (-far) far a ∧ Within (-far) far b ∧
  ∀ x y z : RS, Canon x → Canon y → Canon z → x.length ≤ 250 ∧ y.length ≤ 250 ∧ z.length ≤ 250 → (∀ t, In x t ↔ In a t ∧ In b t) → (∀ t, In y t ↔ In a t ∨ In b t) → (∀ t, In z t ↔ In a t ∧ ¬ In b t) → Q (.own false (.lst [rsD x, rsD y, rsD z])) args
def wr__law_due_1 : WS := (wRet (wLc (wSeqI (wVar 5)) (gNm 7) wYes (wCall C__law_of_numbers [(wVar 7)]) [7]))
def wr__law_due_2 : WS := (wSeq (wFg [3, 4] (wFz [5] (wSet 5 (wLst [(wLc (wSeqI (wVar 3)) (gNm 6) (wB (wOp gIn (wVar 6) (wVar 4))) (wVar 6) [6]), (wOp gAdd (wVar 3) (wVar 4)), (wLc (wSeqI (wVar 3)) (gNm 6) (wB (wOp gNotIn (wVar 6) (wVar 4))) (wVar 6) [6])]))))
  wr__law_due_1)
def wr__law_due_3 : WS := (wRet (wOp gAdd (wVar 9) (wLst [(wLam1 C__law_made [0, 1] (wVar 8) (wAndV (wCall C__law_in [(wVar 0), (wVar 10)]) (wNotV (wCall C__law_in [(wVar 1), (wVar 10)]))))])))
def wr__law_due_4 : WS := (wSeq (wFz [9] (wDrop (wApp 9 (wLam1 C__law_made [0, 1] (wVar 8) (wOrV (wCall C__law_in [(wVar 0), (wVar 10)]) (wCall C__law_in [(wVar 1), (wVar 10)]))))))
  wr__law_due_3)
def wr__law_due_5 : WS := (wSeq (wSet 9 (wLst [(wLam1 C__law_made [0, 1] (wVar 8) (wAndV (wCall C__law_in [(wVar 0), (wVar 10)]) (wCall C__law_in [(wVar 1), (wVar 10)])))]))
  wr__law_due_4)
def wr__law_due_6 : WS := (wSeq (wFz [8] (wSet 8 (wCall C__law_points [(wLst [(wVar 0), (wVar 1)])])))
  wr__law_due_5)
def w__law_due : WS := (wSeq (wFg [3, 4, 5] (wIfS (wB (wVar 2)) (wSeq (wFz [3, 4] (wTupAsg [3, 4] [(wCall C__law_numbers [(wVar 0)]), (wCall C__law_numbers [(wVar 1)])]))
  wr__law_due_2) wNext))
  wr__law_due_6)
theorem pts_mem {rs : RS} {x : Int} : x ∈ ptsOf rs ↔ ∃ p ∈ rs, x = p.1 ∨ x = p.2 + 1 := by
  unfold ptsOf
  rw [List.mem_flatMap]
  constructor
  · rintro ⟨p, hp, h⟩
    simp only [List.mem_cons, List.not_mem_nil, or_false] at h
    exact ⟨p, hp, h⟩
  · rintro ⟨p, hp, h⟩
    exact ⟨p, hp, by simp only [List.mem_cons, List.not_mem_nil, or_false]; exact h⟩
theorem in_const {rs : RS} {lo hi x : Int} (h : ∀ t ∈ ptsOf rs, ¬ (lo < t ∧ t < hi)) (h1 : lo ≤ x) (h2 : x < hi) : In rs x ↔ In rs lo := by
  constructor
  · rintro ⟨p, hp, a1, a2⟩
    have b1 := h p.1 (pts_mem.2 ⟨p, hp, .inl rfl⟩)
    exact ⟨p, hp, by omega, by omega⟩
  · rintro ⟨p, hp, a1, a2⟩
    have b1 := h (p.2 + 1) (pts_mem.2 ⟨p, hp, .inr rfl⟩)
    exact ⟨p, hp, by omega, by omega⟩
theorem find_gap : ∀ {pts : List Int} {x a z : Int}, pts.Pairwise (· < ·) → a ∈ pts → z ∈ pts → a ≤ x → x < z → ∃ j lo hi, j < pts.length - 1 ∧ pts[j]? = some lo ∧ pts[j + 1]? = some hi ∧ lo ≤ x ∧ x < hi
  | [], _, _, _, _, ha, _, _, _ => by cases ha
  | [p], x, a, z, _, ha, hz, h1, h2 => by
    rw [List.mem_singleton] at ha hz
    omega
  | p :: q :: r, x, a, z, hs, ha, hz, h1, h2 => by
    have hs' := List.pairwise_cons.mp hs
    by_cases hx : x < q
    · refine ⟨0, p, q, by simp, rfl, rfl, ?_, hx⟩
      rcases List.mem_cons.mp ha with e | e
      · omega
      · have : q ≤ a := by
          rcases List.mem_cons.mp e with e2 | e2
          · omega
          · have := (List.pairwise_cons.mp hs'.2).1 a e2
            omega
        omega
    · have hz' : z ∈ q :: r := by
        rcases List.mem_cons.mp hz with e | e
        · have := hs'.1 q (by simp); omega
        · exact e
      obtain ⟨j, lo, hi, hj, e1, e2, q1, q2⟩ := find_gap hs'.2 (show q ∈ q :: r by simp) hz' (by omega) h2
      exact ⟨j + 1, lo, hi, by simp only [List.length_cons] at hj ⊢; omega, e1, e2, q1, q2⟩
theorem gap_none {pts : List Int} (hs : pts.Pairwise (· < ·)) {j : Nat} {lo hi t : Int} (e1 : pts[j]? = some lo) (e2 : pts[j + 1]? = some hi) (ht : t ∈ pts) : ¬ (lo < t ∧ t < hi) := by
  obtain ⟨i, hi', et⟩ := List.mem_iff_getElem.mp ht
  obtain ⟨l1, el⟩ := List.getElem?_eq_some_iff.mp e1
  obtain ⟨l2, eh⟩ := List.getElem?_eq_some_iff.mp e2
  rintro ⟨a, b⟩
  rcases Nat.lt_trichotomy i j with h | h | h
  · have := List.pairwise_iff_getElem.mp hs i j hi' l1 h; omega
  · subst h; omega
  · by_cases h3 : i = j + 1
    · subst h3; omega
    · have := List.pairwise_iff_getElem.mp hs (j + 1) i l2 hi' (by omega); omega
theorem made_iff {a b : RS} {pts : List Int} {f : Int → Bool} (hs : pts.Pairwise (· < ·)) (hp : ∀ x, x ∈ pts ↔ x ∈ ptsOf a ++ ptsOf b) (hf : ∀ x y, (In a x ↔ In a y) → (In b x ↔ In b y) → f x = f y) (h0 : ∀ x, f x = true → In a x ∨ In b x) (x : Int) : MadeOf pts f (pts.length - 1) x ↔ f x = true := by
  have same : ∀ {j : Nat} {lo hi : Int}, pts[j]? = some lo → pts[j + 1]? = some hi → lo ≤ x → x < hi → f x = f lo := fun {j lo hi} e1 e2 q1 q2 =>
    hf x lo (in_const (fun t ht => gap_none hs e1 e2 ((hp t).2 (List.mem_append_left _ ht))) q1 q2) (in_const (fun t ht => gap_none hs e1 e2 ((hp t).2 (List.mem_append_right _ ht))) q1 q2)
  constructor
  · rintro ⟨j, lo, hi, _, e1, e2, q1, q2, q3⟩
    rw [same e1 e2 q1 q2, q3]
  · intro h
    have : ∃ s e : Int, s ∈ pts ∧ e ∈ pts ∧ s ≤ x ∧ x < e := by
      rcases h0 x h with ⟨p, hm, a1, a2⟩ | ⟨p, hm, a1, a2⟩
      · exact ⟨p.1, p.2 + 1, (hp _).2 (List.mem_append_left _ (pts_mem.2 ⟨p, hm, .inl rfl⟩)), (hp _).2 (List.mem_append_left _ (pts_mem.2 ⟨p, hm, .inr rfl⟩)), a1, by omega⟩
      · exact ⟨p.1, p.2 + 1, (hp _).2 (List.mem_append_right _ (pts_mem.2 ⟨p, hm, .inl rfl⟩)), (hp _).2 (List.mem_append_right _ (pts_mem.2 ⟨p, hm, .inr rfl⟩)), a1, by omega⟩
    obtain ⟨s, e, m1, m2, q1, q2⟩ := this
    obtain ⟨j, lo, hi, hj, e1, e2, r1, r2⟩ := find_gap hs m1 m2 q1 q2
    exact ⟨j, lo, hi, hj, e1, e2, r1, r2, by rw [← same e1 e2 r1 r2]; exact h⟩
theorem lam_and {a b : RS} {x : Int} {k : Dl.Slot → Prop} (la : a.length ≤ 6) (lb : b.length ≤ 6) (hk : k (.fro (.bl (inB a x && inB b x)))) : lamOf1 (wAndV (wCall C__law_in [wVar 0, wVar 10]) (wCall C__law_in [wVar 1, wVar 10])) 10 [0, 1] [rsD a, rsD b] (.int x) k := by
  unfold lamOf1
  walk_at "dl"
  refine ⟨a, x, rfl, by omega, ?_⟩
  cases ha : inB a x with
  | false =>
    rw [ha] at hk
    walk_at "dl"
    exact hk
  | true =>
    rw [ha] at hk
    walk_at "dl"
    refine ⟨b, x, rfl, by omega, ?_⟩
    walk_at "dl"
    exact hk
theorem lam_or {a b : RS} {x : Int} {k : Dl.Slot → Prop} (la : a.length ≤ 6) (lb : b.length ≤ 6) (hk : k (.fro (.bl (inB a x || inB b x)))) : lamOf1 (wOrV (wCall C__law_in [wVar 0, wVar 10]) (wCall C__law_in [wVar 1, wVar 10])) 10 [0, 1] [rsD a, rsD b] (.int x) k := by
  unfold lamOf1
  walk_at "dl"
  refine ⟨a, x, rfl, by omega, ?_⟩
  cases ha : inB a x with
  | true =>
    rw [ha] at hk
    walk_at "dl"
    exact hk
  | false =>
    rw [ha] at hk
    walk_at "dl"
    refine ⟨b, x, rfl, by omega, ?_⟩
    walk_at "dl"
    exact hk
theorem lam_not {a b : RS} {x : Int} {k : Dl.Slot → Prop} (la : a.length ≤ 6) (lb : b.length ≤ 6) (hk : k (.fro (.bl (inB a x && !inB b x)))) : lamOf1 (wAndV (wCall C__law_in [wVar 0, wVar 10]) (wNotV (wCall C__law_in [wVar 1, wVar 10]))) 10 [0, 1] [rsD a, rsD b] (.int x) k := by
  unfold lamOf1
  walk_at "dl"
  refine ⟨a, x, rfl, by omega, ?_⟩
  cases ha : inB a x with
  | false =>
    rw [ha] at hk
    walk_at "dl"
    exact hk
  | true =>
    rw [ha] at hk
    walk_at "dl"
    refine ⟨b, x, rfl, by omega, ?_⟩
    walk_at "dl"
    exact hk
theorem bool_of {f g : Bool} (h : f = true ↔ g = true) : f = g := by
  cases f <;> cases g <;> simp at h ⊢
theorem in_eq {rs : RS} {x y : Int} (h : In rs x ↔ In rs y) : inB rs x = inB rs y := bool_of (by rw [inB_iff, inB_iff]; exact h)
theorem flat_ints (l : List Int) : (l.map D.int).all flatD = true := List.all_eq_true.mpr fun e he => by obtain ⟨x, _, rfl⟩ := List.mem_map.mp he; rfl
theorem in_intsK (x : Int) (ms : List Int) : inD (.int x) (ms.map .int) = decide (x ∈ ms) := by
  unfold inD L2.inV
  rw [Bool.eq_iff_iff, List.any_eq_true, decide_eq_true_iff]
  constructor
  · rintro ⟨v, hv, he⟩
    obtain ⟨d, hd, rfl⟩ := List.mem_map.mp hv
    obtain ⟨y, hy, rfl⟩ := List.mem_map.mp hd
    first
      | (have : x = y := by simpa [eqV, keyV] using he
         rw [this]; exact hy)
      | (have : y = x := by simpa [eqV, keyV] using he
         rw [← this]; exact hy)
  · intro h
    exact ⟨.int x, List.mem_map.mpr ⟨.int x, List.mem_map.mpr ⟨x, h, rfl⟩, rfl⟩, by simp [eqV, keyV]⟩
theorem sel_map (p : Int → Bool) : ∀ l : List Int, ((l.map D.int).filter fun d => match d with
    | .int x => p x
    | _ => false).map id = (l.filter p).map D.int
  | [] => rfl
  | x :: l => by
    have ih := sel_map p l
    rw [List.map_cons]
    cases hp : p x with
    | true =>
      rw [List.filter_cons_of_pos (by exact hp), List.filter_cons_of_pos hp, List.map_cons, List.map_cons, ih]; rfl
    | false =>
      rw [List.filter_cons_of_neg (by show ¬ p x = true; rw [hp]; exact Bool.false_ne_true), List.filter_cons_of_neg (show ¬ p x = true by rw [hp]; exact Bool.false_ne_true), ih]
theorem ok__law_due (args : List Dl.Slot) (Q : Dl.Slot → List Dl.Slot → Prop) (hl : args.length = 3) (h : C__law_due args Q) : noOwn args ∧ w__law_due (endsOf args Q) (args ++ List.replicate (10 - 3) .nil) := by
  obtain ⟨a, b, far, rfl, ca, cb, la, lb, wa, wb, hq⟩ := h
  refine ⟨noOwn3 _ _ _, ?_⟩
  unfold w__law_due
  generalize hK : endsOf [.fro (rsD a), .fro (rsD b), .fro (.bl (decide (far < 100)))] Q = KD
  have hret : ∀ (x y z : RS) (ρ : List Dl.Slot), Canon x → Canon y → Canon z → x.length ≤ 250 ∧ y.length ≤ 250 ∧ z.length ≤ 250 → (∀ t, In x t ↔ In a t ∧ In b t) → (∀ t, In y t ↔ In a t ∨ In b t) → (∀ t, In z t ↔ In a t ∧ ¬ In b t) → KD.rt (.own false (.lst [rsD x, rsD y, rsD z])) (.fro (rsD a) :: .fro (rsD b) :: .fro (.bl (decide (far < 100))) :: ρ) := fun x y z ρ h1 h2 h3 h0 h4 h5 h6 => by subst hK; exact hq x y z h1 h2 h3 h0 h4 h5 h6
  clear hK hq
  generalize hW : wr__law_due_6 = W
  generalize hW2 : wr__law_due_2 = W2
  walk_at "dl"
  by_cases hs : far < 100
  · rw [if_pos (decide_eq_true hs)]
    have wa' := within_wide wa (show (-1000 : Int) ≤ -far by omega) (show far ≤ 1000 by omega)
    have wb' := within_wide wb (show (-1000 : Int) ≤ -far by omega) (show far ≤ 1000 by omega)
    refine ⟨a, rfl, ca.ok, by omega, wa', ?_⟩
    walk_at "dl"
    refine ⟨b, rfl, cb.ok, by omega, wb', ?_⟩
    walk_at "dl"
    refine ⟨by decide, ?_⟩
    subst hW2
    unfold wr__law_due_2
    generalize hW2 : wr__law_due_1 = W2
    generalize hKD : DEnds.mk _ _ _ _ = KB
    have hkb : ∀ v ρ, KD.rt v ρ → KB.rt v ρ := fun v ρ h => by subst hKD; exact h
    clear hKD
    have na := nums_len wa'
    have nb := nums_len wb'
    walk_at "dl"
    unfold wLc
    walk_at "dl"
    refine lc_sel (fun d => match d with
      | .int x => decide (x ∈ numsOf b)
      | _ => false) id _ (by rw [List.length_map]; omega) (fun d hd k1 k0 hk => ?_) ?_
    · obtain ⟨x, hx, rfl⟩ := List.mem_map.mp hd
      walk_at "dl"
      refine ⟨rfl, flat_ints _, ?_⟩
      rw [in_intsK]
      exact hk
    walk_at "dl"
    refine ⟨by rw [List.length_map, List.length_map]; exact big _ (by omega), ?_⟩
    refine lc_sel (fun d => match d with
      | .int x => !decide (x ∈ numsOf b)
      | _ => false) id _ (by rw [List.length_map]; omega) (fun d hd k1 k0 hk => ?_) ?_
    · obtain ⟨x, hx, rfl⟩ := List.mem_map.mp hd
      walk_at "dl"
      refine ⟨rfl, flat_ints _, ?_⟩
      rw [in_intsK]
      exact hk
    refine ⟨by decide, ?_⟩
    rw [sel_map fun x => decide (x ∈ numsOf b), sel_map fun x => !decide (x ∈ numsOf b), ← List.map_append]
    walk_at "dl"
    have f1 := List.length_filter_le (fun x => decide (x ∈ numsOf b)) (numsOf a)
    have f2 := List.length_filter_le (fun x => !decide (x ∈ numsOf b)) (numsOf a)
    have e1 : ∀ x, x ∈ (numsOf a).filter (fun x => decide (x ∈ numsOf b)) ↔ In a x ∧ In b x := fun x => by
      rw [List.mem_filter, decide_eq_true_iff, nums_mem, nums_mem]
    have e2 : ∀ x, x ∈ numsOf a ++ numsOf b ↔ In a x ∨ In b x := fun x => by rw [List.mem_append, nums_mem, nums_mem]
    have e3 : ∀ x, x ∈ (numsOf a).filter (fun x => !decide (x ∈ numsOf b)) ↔ In a x ∧ ¬ In b x := fun x => by
      rw [List.mem_filter, Bool.not_eq_true', decide_eq_false_iff_not, nums_mem, nums_mem]
    have l2 : (numsOf a ++ numsOf b).length ≤ 30000 := by rw [List.length_append]; omega
    generalize (numsOf a).filter (fun x => decide (x ∈ numsOf b)) = n1 at f1 e1 ⊢
    generalize (numsOf a).filter (fun x => !decide (x ∈ numsOf b)) = n3 at f2 e3 ⊢
    generalize numsOf a ++ numsOf b = n2 at l2 e2 ⊢
    subst hW2
    unfold wr__law_due_1
    walk_at "dl"
    unfold wLc
    walk_at "dl"
    unfold lcl
    walk_at "dl"
    refine ⟨n1, rfl, by omega, fun r1 c1 _ i1 => ?_⟩
    walk_at "dl"
    refine ⟨by decide, ?_⟩
    unfold lcl
    walk_at "dl"
    refine ⟨n2, rfl, by omega, fun r2 c2 _ i2 => ?_⟩
    walk_at "dl"
    refine ⟨by decide, ?_⟩
    unfold lcl
    walk_at "dl"
    refine ⟨n3, rfl, by omega, fun r3 c3 _ i3 => ?_⟩
    walk_at "dl"
    refine ⟨by decide, ?_⟩
    unfold lcl
    walk_at "dl"
    have j1 := fun t => (i1 t).trans (e1 t)
    have j2 := fun t => (i2 t).trans (e2 t)
    have j3 := fun t => (i3 t).trans (e3 t)
    have bn : ∀ {r : RS}, Canon r → (∀ t, In r t → In a t ∨ In b t) → r.length ≤ 250 := fun {r} c h => Nat.le_trans (canon_range (lo := -far) (n := 201) c fun t ht => by
      rcases h t ht with z | z
      · have := within_in wa z; omega
      · have := within_in wb z; omega) (by decide)
    exact hkb _ _ (hret r1 r2 r3 _ c1 c2 c3 ⟨bn c1 fun t h => .inl ((j1 t).1 h).1, bn c2 fun t h => (j2 t).1 h, bn c3 fun t h => .inl ((j3 t).1 h).1⟩ j1 j2 j3)
  · rw [if_neg (by rw [decide_eq_false hs]; exact Bool.false_ne_true)]
    subst hW
    unfold wr__law_due_6
    generalize hW : wr__law_due_5 = W
    walk_at "dl"
    refine ⟨by decide, a, b, rfl, by omega, by omega, fun pts hs hp hl => ?_⟩
    walk_at "dl"
    subst hW
    unfold wr__law_due_5
    generalize hW : wr__law_due_4 = W
    walk_at "dl"
    refine ⟨by simp, pts, fun x => inB a x && inB b x, rfl, hs, hl, fun x k hk => ?_, fun r1 c1 l1 i1 => ?_⟩
    · exact lam_and la lb hk
    have m1 : ∀ t, In r1 t ↔ In a t ∧ In b t := fun t => by
      rw [i1 t, made_iff hs hp (fun x y h1 h2 => by show (_ && _) = (_ && _); rw [in_eq h1, in_eq h2]) (fun x h => by
        have h : (inB a x && inB b x) = true := h
        rw [Bool.and_eq_true, inB_iff, inB_iff] at h
        exact .inl h.1)]
      rw [Bool.and_eq_true, inB_iff, inB_iff]
    walk_at "dl"
    refine ⟨by decide, ?_⟩
    subst hW
    unfold wr__law_due_4
    generalize hW : wr__law_due_3 = W
    walk_at "dl"
    refine ⟨by simp, by simp, pts, fun x => inB a x || inB b x, rfl, hs, hl, fun x k hk => lam_or la lb hk, fun r2 c2 l2 i2 => ?_⟩
    have m2 : ∀ t, In r2 t ↔ In a t ∨ In b t := fun t => by
      rw [i2 t, made_iff hs hp (fun x y h1 h2 => by show (_ || _) = (_ || _); rw [in_eq h1, in_eq h2]) (fun x h => by
        have h : (inB a x || inB b x) = true := h
        rw [Bool.or_eq_true, inB_iff, inB_iff] at h
        exact h)]
      rw [Bool.or_eq_true, inB_iff, inB_iff]
    walk_at "dl"
    refine ⟨by decide, ?_⟩
    subst hW
    unfold wr__law_due_3
    walk_at "dl"
    refine ⟨by simp, pts, fun x => inB a x && !inB b x, rfl, hs, hl, fun x k hk => lam_not la lb hk, fun r3 c3 l3 i3 => ?_⟩
    have m3 : ∀ t, In r3 t ↔ In a t ∧ ¬ In b t := fun t => by
      rw [i3 t, made_iff hs hp (fun x y h1 h2 => by show (_ && !_) = (_ && !_); rw [in_eq h1, in_eq h2]) (fun x h => by
        have h : (inB a x && !inB b x) = true := h
        rw [Bool.and_eq_true, inB_iff] at h
        exact .inl h.1)]
      rw [Bool.and_eq_true, inB_iff, Bool.not_eq_true', ← Bool.not_eq_true, inB_iff]
    walk_at "dl"
    refine ⟨by decide, by decide, ?_⟩
    exact hret r1 r2 r3 _ c1 c2 c3 ⟨by omega, by omega, by omega⟩ m1 m2 m3
end Lw
namespace Lw
open PySem L2 Dl Rs
local macro_rules | `(tactic| walk_at "dl") => `(tactic| try simp (config := { maxSteps := 400000 }) only [wLstRg, wSetK, wUpd, gUpd, gDictP, gSortD, gMul2, kOfD, wAct1, wLam1, capt, viewL, lcBody, wipeD, back, Option.getD_some, wSeq, wIfS, wAnd, wOr, wNot, wRet, wDrop, wNext, wBrk, wCnt, wAndV, wOrV, wNotV, wB, wIf, wCB, wArgs, wVar, wC, wTup, wLst, wOp, wChain, wNeg, wSl, wP, wNoP, wSet, wPar, wAsg, wCall, wCallP, wCallN, wApp, wExt, wMt, gApp, gExt, wSetIx, wSeqI, wRng1, wRng2, wZip, wEnum, wFor, withL, lookL, lookD, with2, frz, frzL, prep, put, notLent, kindO, gTp, gNms, gNm, O.d, itemsOf, leave, endsOf, outsOf, clean, wYes, wK, CE.s, wDct0, wDct1, wRev, wRev2, wPop, wSortSet, wSortSet2, gEqNil, gNotB, wParN, wTupAsg, prepL, putL, wEnum2, wCallK, perm, gIsB, gRepr, List.getD_cons_zero, List.getD_cons_succ, wFg, wFgL, fgs, fg1, wFz, fzs, fz1, gTpG, gAllT, wTupS, wLstS, wArgsS, wLenSet, gIn_tup, gIn_lst, gNotIn_tup, gNotIn_lst, gEq_int, gNe_int, gEq_str, gNe_str,
    gI, gIC, Dl.gSub, gFdiv, gMod, gPow, gLt, gLe, gGt, gGe, gAdd, gMul, gIsN, gNotN, Dl.isNon, gIx, gSl, gLen, gAbs, gInt1, gMax2, gMin2, gTuple, gList, gIsi, atI_0, atI_1, atI_2, atI_m1, ixN_30, ixN_32,
    List.getElem?_cons_zero, List.getElem?_cons_succ, List.set_cons_zero, List.set_cons_succ, List.cons_append, List.nil_append, List.append_nil, List.replicate, List.length_cons, List.length_nil, List.map_cons, List.map_nil, Nat.reduceAdd, Nat.reduceSub, Nat.add_one_sub_one,
    true_and, and_true, if_true, if_false, Bool.false_eq_true, Bool.not_true, Bool.not_false, reduceIte, ite_true, ite_false, decide_true, decide_false])
def C__law_right : WE := fun args Q => ∃ (n : Int) (o : O), args = [.own true o] ∧ Pot n o ∧ n + 10000 < 6000000 ∧ ∀ o', Pot (n + 10000) o' → Q (.fro (.bl true)) [.own true o']
def C_law : WE := fun args Q => ∃ ns : List Int, args = [.fro (.arg ns)] ∧ Q (.fro (.bl true)) args
def wr__law_right_1 : WS := (wFg [5, 6] (wIfS (wB (wOp gNe (wCB gRepr [(wVar 6)]) (wVar 5))) (wRet (wC (.bl false))) wNext))
def wr__law_right_2 : WS := (wSeq (wFg [2, 3] (wFz [6] (wSet 6 (wLst [(wCallK C_both [(wVar 3), (wVar 2)] [1, 0]), (wCallK C_either [(wVar 3), (wVar 2)] [1, 0]), (wCallK C_without [(wVar 3), (wVar 2)] [1, 0])]))))
  wr__law_right_1)
def wr__law_right_3 : WS := (wSeq (wIfS (wB (wOp gNe (wCB gRepr [(wLst [(wCall C_both [(wVar 2), (wVar 3)]), (wCall C_either [(wVar 2), (wVar 3)]), (wCall C_without [(wVar 2), (wVar 3)])])]) (wVar 5))) (wRet (wC (.bl false))) wNext)
  wr__law_right_2)
def wr__law_right_4 : WS := (wSeq (wFg [4] (wSet 5 (wCB gRepr [(wCall C__law_due [(wVar 2), (wVar 3), (wVar 4)])])))
  wr__law_right_3)
def wb__law_right_5 : WS := (wFgL [1, 2, 3, 4, 5, 6] [] (wSeq (wAsg (wCallP C__law_pair 0 []) (gTp [2, 3, 4]))
  wr__law_right_4))
def wr__law_right_6 : WS := (wRet (wC (.bl true)))
def w__law_right : WS := (wSeq (wFg [1, 2, 3, 4, 5, 6] (wFor (wRng1 [(wC (.int 40))]) (gNm 1) wb__law_right_5))
  wr__law_right_6)
def wb_law_1 : WS := (wFgL [1] [] (wFg [1] (wIfS (wNot (wB (wCallN C__law_right (wCall C__law_pot [(wVar 0), (wVar 1)])))) (wRet (wC (.bl false))) wNext)))
def wr_law_2 : WS := (wRet (wC (.bl true)))
def w_law : WS := (wSeq (wFg [1] (wFor (wRng1 [(wCB gMax2 [(wC (.int 1)), (wCB gMin2 [(wC (.int 3)), (wCB gLen [(wVar 0)])])])]) (gNm 1) wb_law_1))
  wr_law_2)
theorem ok__law_right (args : List Dl.Slot) (Q : Dl.Slot → List Dl.Slot → Prop) (hl : args.length = 1) (h : C__law_right args Q) : noOwn args ∧ w__law_right (endsOf args Q) (args ++ List.replicate (7 - 1) .nil) := by
  obtain ⟨n, o, rfl, hp, hn, hq⟩ := h
  refine ⟨noOwnT1, ?_⟩
  unfold w__law_right
  generalize hK : endsOf [.own true o] Q = KD
  have hret : ∀ o' ρ, Pot (n + 10000) o' → KD.rt (.fro (.bl true)) (.own true o' :: ρ) := fun o' ρ h1 => by subst hK; exact hq o' h1
  clear hK hq
  generalize hW : wr__law_right_6 = W
  walk_at "dl"
  refine ⟨by decide, by decide, ?_⟩
  refine loop_rng 0 _ (fun i ρ => ∃ o', ρ = [.own true o', .nil, .nil, .nil, .nil, .nil, .nil] ∧ Pot (n + 100 * i) o') (fun ρ ⟨o', e, hp'⟩ => ?_) (fun i ρ L hi ⟨o', e, hp'⟩ hL => ?_) _ ⟨o, rfl, hp.mono (by omega)⟩
  · subst e
    have : ((40 : Int).toNat : Int) = 40 := rfl
    walk_at "dl"
    subst hW
    unfold wr__law_right_6
    walk_at "dl"
    exact hret _ _ (hp'.mono (by omega))
  · subst e
    have hi40 : i < 40 := by have : (40 : Int).toNat = 40 := rfl; omega
    clear hW
    unfold wb__law_right_5
    generalize hW : wr__law_right_4 = W4
    walk_at "dl"
    refine ⟨⟨_, _, rfl⟩, _, o', rfl, hp', by omega, fun a b far o2 ca cb la lb wa wb f8 f12 hp2 => ?_⟩
    walk_at "dl"
    generalize hKD : DEnds.mk _ _ _ _ = KB
    have hkb : ∀ ρ, L (fgs [1, 2, 3, 4, 5, 6] ρ) → KB.nx ρ := fun ρ h => by subst hKD; exact h
    clear hKD
    subst hW
    unfold wr__law_right_4
    generalize hW : wr__law_right_3 = W3
    walk_at "dl"
    refine ⟨a, b, far, rfl, ca, cb, la, lb, wa, wb, fun x y z cx cy cz hl ix iy iz => ?_⟩
    have hx : ∀ t, In x t → In a t ∨ In b t := fun t h => .inl ((ix t).1 h).1
    have hy : ∀ t, In y t → In a t ∨ In b t := fun t h => (iy t).1 h
    have hz : ∀ t, In z t → In a t ∨ In b t := fun t h => .inl ((iz t).1 h).1
    have hb : ∀ t, In a t ∨ In b t → -far ≤ t ∧ t ≤ far := fun t h => by
      rcases h with h | h
      · exact within_in wa h
      · exact within_in wb h
    have fn : ∀ {r : RS}, Canon r → r.length ≤ 250 → (∀ t, In r t → In a t ∨ In b t) → Fine 751 2 (rsD r) := fun {r} c l h => fine_rs l c.ok fun t ht => Nat.lt_of_le_of_lt (show t.natAbs ≤ 10 ^ 12 by have := hb t (h t ht); omega) (by decide)
    have hrep : reprOk (.lst [rsD x, rsD y, rsD z]) := by
      have hf : ∀ e ∈ [rsD x, rsD y, rsD z], Fine 751 2 e := fun e he => by
        simp only [List.mem_cons, List.not_mem_nil, or_false] at he
        rcases he with rfl | rfl | rfl
        · exact fn cx hl.1 hx
        · exact fn cy hl.2.1 hy
        · exact fn cz hl.2.2 hz
      obtain ⟨q1, q2, q3⟩ := fineL hf
      exact (show Fine 3000 3 (.lst [rsD x, rsD y, rsD z]) from ⟨q1, by show 1 + ndL _ ≤ _; have : ([rsD x, rsD y, rsD z] : List D).length = 3 := rfl; omega, Nat.succ_le_succ q3⟩).ok (by decide) (by decide)
    walk_at "dl"
    refine ⟨hrep, ?_⟩
    subst hW
    unfold wr__law_right_3
    generalize hW : wr__law_right_2 = W2
    walk_at "dl"
    refine ⟨a, b, rfl, ca, cb, by omega, by omega, fun x1 c1 _ i1 => ?_⟩
    obtain rfl : x1 = x := canon_ext c1 cx fun t => (i1 t).trans (ix t).symm
    walk_at "dl"
    refine ⟨a, b, rfl, ca.ok, cb.ok, by omega, by omega, fun y1 c1 _ i1 => ?_⟩
    obtain rfl : y1 = y := canon_ext c1 cy fun t => (i1 t).trans (iy t).symm
    walk_at "dl"
    refine ⟨a, b, rfl, ca, cb, by omega, by omega, fun z1 c1 _ i1 => ?_⟩
    obtain rfl : z1 = z := canon_ext c1 cz fun t => (i1 t).trans (iz t).symm
    walk_at "dl"
    refine ⟨by decide, hrep, ?_⟩
    subst hW
    unfold wr__law_right_2
    generalize hW : wr__law_right_1 = W1
    unfold wCallK
    walk_at "dl"
    refine ⟨a, b, rfl, ca, cb, by omega, by omega, fun x2 c1 _ i1 => ?_⟩
    obtain rfl : x2 = x1 := canon_ext c1 cx fun t => (i1 t).trans (ix t).symm
    walk_at "dl"
    refine ⟨a, b, rfl, ca.ok, cb.ok, by omega, by omega, fun y2 c1 _ i1 => ?_⟩
    obtain rfl : y2 = y1 := canon_ext c1 cy fun t => (i1 t).trans (iy t).symm
    walk_at "dl"
    refine ⟨a, b, rfl, ca, cb, by omega, by omega, fun z2 c1 _ i1 => ?_⟩
    obtain rfl : z2 = z1 := canon_ext c1 cz fun t => (i1 t).trans (iz t).symm
    walk_at "dl"
    refine ⟨by decide, ?_⟩
    subst hW
    unfold wr__law_right_1
    walk_at "dl"
    refine ⟨hrep, ?_⟩
    exact hkb _ (hL _ ⟨o2, rfl, hp2.mono (by omega)⟩)
theorem ok_law (args : List Dl.Slot) (Q : Dl.Slot → List Dl.Slot → Prop) (hl : args.length = 1) (h : C_law args Q) : noOwn args ∧ w_law (endsOf args Q) (args ++ List.replicate (2 - 1) .nil) := by
  obtain ⟨ns, rfl, hq⟩ := h
  refine ⟨noOwn1 _, ?_⟩
  unfold w_law
  generalize hK : endsOf [.fro (.arg ns)] Q = KD
  have hret : ∀ (ρ : List Dl.Slot), KD.rt (.fro (.bl true)) (.fro (.arg ns) :: ρ) := fun ρ => by subst hK; exact hq
  clear hK hq
  walk_at "dl"
  refine ⟨by omega, by omega, ?_⟩
  refine loop_rng 0 _ (fun i ρ => ρ = [.fro (.arg ns), .nil] ∧ i ≤ 3) (fun ρ ⟨e, _⟩ => ?_) (fun i ρ L hi ⟨e, hi3⟩ hL => ?_) _ ⟨rfl, by omega⟩
  · subst e
    walk_at "dl"
    unfold wr_law_2
    walk_at "dl"
    exact hret _
  · subst e
    have hi' : i < 3 := by omega
    walk_at "dl"
    unfold wb_law_1
    walk_at "dl"
    refine ⟨ns, _, rfl, by omega, by omega, fun o hp => ?_⟩
    walk_at "dl"
    refine ⟨0, o, rfl, hp, by decide, fun o2 hp2 => ?_⟩
    walk_at "dl"
    exact hL _ ⟨rfl, by omega⟩
theorem law_true (ns : List Int) (hn : ns.length ≤ 63) (Q : Dl.Slot → List Dl.Slot → Prop) (hq : ∀ s, Q (.fro (.bl true)) s) : C_law [.fro (.arg ns)] Q := ⟨ns, rfl, hq _⟩
end Lw
namespace Lw
open PySem L2 Dl Rs
end Lw
namespace Lw
open PySem L2 Dl Rs
abbrev N_united : List Str := ["pairs", "found", "start", "end", "low", "high"]
theorem sc_united : FnScope N_united ["pairs"] (defScope s_united) := ⟨rfl, rfl, rfl, by decide +kernel, rfl, by decide +kernel, by decide +kernel⟩
abbrev N_both : List Str := ["one", "other", "found", "at", "to", "low", "high"]
theorem sc_both : FnScope N_both ["one", "other"] (defScope s_both) := ⟨rfl, rfl, rfl, by decide +kernel, rfl, by decide +kernel, by decide +kernel⟩
abbrev N_either : List Str := ["one", "other"]
theorem sc_either : FnScope N_either ["one", "other"] (defScope s_either) := ⟨rfl, rfl, rfl, by decide +kernel, rfl, by decide +kernel, by decide +kernel⟩
abbrev N_gaps : List Str := ["ranges", "low", "high", "found", "start", "first", "last", "pair"]
theorem sc_gaps : FnScope N_gaps ["ranges", "low", "high"] (defScope s_gaps) := ⟨rfl, rfl, rfl, by decide +kernel, rfl, by decide +kernel, by decide +kernel⟩
abbrev N_without : List Str := ["one", "other"]
theorem sc_without : FnScope N_without ["one", "other"] (defScope s_without) := ⟨rfl, rfl, rfl, by decide +kernel, rfl, by decide +kernel, by decide +kernel⟩
abbrev N__law_pot : List Str := ["_law_script", "_law_k", "_law_cell", "_law_own"]
theorem sc__law_pot : FnScope N__law_pot ["_law_script", "_law_k"] (defScope s__law_pot) := ⟨rfl, rfl, rfl, by decide +kernel, rfl, by decide +kernel, by decide +kernel⟩
abbrev N__law_draw : List Str := ["_law_pot_here", "_law_many", "_law_digit", "_law_prime", "_law_made_here"]
theorem sc__law_draw : FnScope N__law_draw ["_law_pot_here", "_law_many"] (defScope s__law_draw) := ⟨rfl, rfl, rfl, by decide +kernel, rfl, by decide +kernel, by decide +kernel⟩
abbrev N__law_any : List Str := ["_law_pot_here", "_law_items"]
theorem sc__law_any : FnScope N__law_any ["_law_pot_here", "_law_items"] (defScope s__law_any) := ⟨rfl, rfl, rfl, by decide +kernel, rfl, by decide +kernel, by decide +kernel⟩
abbrev N__law_spans : List Str := ["_law_pot_here", "_law_most", "_law_low", "_law_high", "_law_wide", "_law_found", "_law_here", "_law_turn", "_law_end"]
theorem sc__law_spans : FnScope N__law_spans ["_law_pot_here", "_law_most", "_law_low", "_law_high"] (defScope s__law_spans) := ⟨rfl, rfl, rfl, by decide +kernel, rfl, by decide +kernel, by decide +kernel⟩
abbrev N__law_in : List Str := ["_law_spans_here", "_law_number", "_law_low", "_law_high"]
theorem sc__law_in : FnScope N__law_in ["_law_spans_here", "_law_number"] (defScope s__law_in) := ⟨rfl, rfl, rfl, by decide +kernel, rfl, by decide +kernel, by decide +kernel⟩
abbrev N__law_points : List Str := ["_law_some", "_law_found", "_law_spans_here", "_law_low", "_law_high"]
theorem sc__law_points : FnScope N__law_points ["_law_some"] (defScope s__law_points) := ⟨rfl, rfl, rfl, by decide +kernel, rfl, by decide +kernel, by decide +kernel⟩
abbrev N__law_made : List Str := ["_law_points_here", "_law_is_in", "_law_found", "_law_at", "_law_low", "_law_high"]
theorem sc__law_made : FnScope N__law_made ["_law_points_here", "_law_is_in"] (defScope s__law_made) := ⟨rfl, rfl, rfl, by decide +kernel, rfl, by decide +kernel, by decide +kernel⟩
abbrev N__law_poured : List Str := ["_law_pairs", "_law_found", "_law_low", "_law_high"]
theorem sc__law_poured : FnScope N__law_poured ["_law_pairs"] (defScope s__law_poured) := ⟨rfl, rfl, rfl, by decide +kernel, rfl, by decide +kernel, by decide +kernel⟩
abbrev N__law_numbers : List Str := ["_law_spans_here", "_law_found", "_law_low", "_law_high"]
theorem sc__law_numbers : FnScope N__law_numbers ["_law_spans_here"] (defScope s__law_numbers) := ⟨rfl, rfl, rfl, by decide +kernel, rfl, by decide +kernel, by decide +kernel⟩
abbrev N__law_of_numbers : List Str := ["_law_numbers_here", "_law_number"]
theorem sc__law_of_numbers : FnScope N__law_of_numbers ["_law_numbers_here"] (defScope s__law_of_numbers) := ⟨rfl, rfl, rfl, by decide +kernel, rfl, by decide +kernel, by decide +kernel⟩
abbrev N__law_pair : List Str := ["_law_pot_here", "_law_far", "_law_first", "_law_second"]
theorem sc__law_pair : FnScope N__law_pair ["_law_pot_here"] (defScope s__law_pair) := ⟨rfl, rfl, rfl, by decide +kernel, rfl, by decide +kernel, by decide +kernel⟩
abbrev N__law_due : List Str := ["_law_first", "_law_second", "_law_is_small", "_law_mine", "_law_its", "_law_some", "_law_n", "_law_numbers_here", "_law_points_here", "_law_found"]
theorem sc__law_due : FnScope N__law_due ["_law_first", "_law_second", "_law_is_small"] (defScope s__law_due) := ⟨rfl, rfl, rfl, by decide +kernel, rfl, by decide +kernel, by decide +kernel⟩
abbrev N__law_right : List Str := ["_law_pot_here", "_law_turn", "_law_first", "_law_second", "_law_is_small", "_law_due_here", "_law_told"]
theorem sc__law_right : FnScope N__law_right ["_law_pot_here"] (defScope s__law_right) := ⟨rfl, rfl, rfl, by decide +kernel, rfl, by decide +kernel, by decide +kernel⟩
abbrev N_law : List Str := ["_law_script", "_law_k"]
theorem sc_law : FnScope N_law ["_law_script"] (defScope s_law) := ⟨rfl, rfl, rfl, by decide +kernel, rfl, by decide +kernel, by decide +kernel⟩
section
variable {P : Program} {w : World} {K : PySem.W.Frag} {mg : Str → Option Value} {base : Heap} [TabN]
theorem fn_united {f : Addr} {fd : FuncData} (F : Fun K "united" "united" s_united f fd) (m_sorted : mg "sorted" = none) (m_max : mg "max" = none) (m_tuple : mg "tuple" = none)     : FnG P w K mg base CX0 1 f fd ["pairs"] (spOf K 1 C_united) :=
  def_ok (k := 0) F sc_united (fun cdv A outer s H E hr hgu => (show MSs _ _ w_united from (mss_cons (ms_set (i := 1) sc_united.nd rfl (by first | exact Or.inl rfl | exact Or.inr rfl) (me_lst ma_nil))
  (mss_cons (ms_asg (js := [2, 3]) (me_tup (ma_cons me_non (ma_cons me_non ma_nil))) (mg_tup rfl (mgs_cons (i := 2) sc_united.nd rfl (by first | exact Or.inl rfl | exact Or.inr rfl) (mgs_cons (i := 3) sc_united.nd rfl (by first | exact Or.inl rfl | exact Or.inr rfl) mgs_nil))))
  (mss_cons (ms_for (js := [4, 5]) PassesOwn.never rfl (mi_seq (me_callB cd_sortP (by rfl) m_sorted (by decide +kernel) (ma_cons (me_var (pv 0)) ma_nil))) (mg_tup rfl (mgs_cons (i := 4) sc_united.nd rfl (by first | exact Or.inl rfl | exact Or.inr rfl) (mgs_cons (i := 5) sc_united.nd rfl (by first | exact Or.inl rfl | exact Or.inr rfl) mgs_nil))) (show MSs _ _ wb_united_2 from (mss_one (ms_if (mw_pt (mw_and (mt_cmp od_notN (me_var (pv 2)) me_non (nomark _)) (mw_and1 (mt_cmp od_le (me_var (pv 4)) (me_op od_add (me_var (pv 3)) me_int) (nomark _))))) (mss_one (ms_set (i := 3) sc_united.nd rfl (by first | exact Or.inl rfl | exact Or.inr rfl) (me_callB (cd_max rfl) (by rfl) m_max (by decide +kernel) (ma_cons (me_var (pv 3)) (ma_cons (me_var (pv 5)) ma_nil))))) (mss_cons (ms_if (mt_cmp od_notN (me_var (pv 2)) me_non (nomark _)) (mss_one (ms_expr (me_mut PySem.F.plainAttrs_list PySem.F.slot_list_append PySem.F.type_list_append mt_append mut_append (pv 1) (ma_cons (me_tup (ma_cons (me_var (pv 2)) (ma_cons (me_var (pv 3)) ma_nil))) ma_nil)))) mss_nil)
  (show MSs _ _ wr_united_1 from (mss_one (ms_par (i := 2) (j := 3) rfl sc_united.nd rfl rfl (by decide) rfl rfl (me_var (pv 4)) (me_var (pv 5))))))))))
  (show MSs _ _ wr_united_4 from (mss_cons (ms_if (mt_cmp od_notN (me_var (pv 2)) me_non (nomark _)) (mss_one (ms_expr (me_mut PySem.F.plainAttrs_list PySem.F.slot_list_append PySem.F.type_list_append mt_append mut_append (pv 1) (ma_cons (me_tup (ma_cons (me_var (pv 2)) (ma_cons (me_var (pv 3)) ma_nil))) ma_nil)))) mss_nil)
  (show MSs _ _ wr_united_3 from (mss_one (ms_ret (me_callT cd_tuple (by rfl) m_tuple (by decide +kernel) (ma_cons (me_var (pv 1)) ma_nil)))))))))))) ok_united
theorem fn_both {f : Addr} {fd : FuncData} (F : Fun K "both" "both" s_both f fd) (m_len : mg "len" = none) (m_max : mg "max" = none) (m_min : mg "min" = none) (m_tuple : mg "tuple" = none)     : FnG P w K mg base CX0 1 f fd ["one", "other"] (spOf K 2 C_both) :=
  def_ok (k := 0) F sc_both (fun cdv A outer s H E hr hgu => (show MSs _ _ w_both from (mss_cons (ms_set (i := 2) sc_both.nd rfl (by first | exact Or.inl rfl | exact Or.inr rfl) (me_lst ma_nil))
  (mss_cons (ms_asg (js := [3, 4]) (me_tup (ma_cons me_int (ma_cons me_int ma_nil))) (mg_tup rfl (mgs_cons (i := 3) sc_both.nd rfl (by first | exact Or.inl rfl | exact Or.inr rfl) (mgs_cons (i := 4) sc_both.nd rfl (by first | exact Or.inl rfl | exact Or.inr rfl) mgs_nil))))
  (mss_cons (ms_while PassesOwn.never (mw_pt (mw_and (mt_cmp od_lt (me_var (pv 3)) (me_callB cd_len (by rfl) m_len (by decide +kernel) (ma_cons (me_var (pv 0)) ma_nil)) (nomark _)) (mw_and1 (mt_cmp od_lt (me_var (pv 4)) (me_callB cd_len (by rfl) m_len (by decide +kernel) (ma_cons (me_var (pv 1)) ma_nil)) (nomark _))))) (show MSs _ _ wb_both_2 from (mss_cons (ms_par (i := 5) (j := 6) rfl sc_both.nd rfl rfl (by decide) rfl rfl (me_callB (cd_max rfl) (by rfl) m_max (by decide +kernel) (ma_cons (me_ix (me_ix (me_var (pv 0)) (me_var (pv 3)) (fun _ _ => rfl)) me_int (fun _ _ => rfl)) (ma_cons (me_ix (me_ix (me_var (pv 1)) (me_var (pv 4)) (fun _ _ => rfl)) me_int (fun _ _ => rfl)) ma_nil))) (me_callB (cd_min rfl) (by rfl) m_min (by decide +kernel) (ma_cons (me_ix (me_ix (me_var (pv 0)) (me_var (pv 3)) (fun _ _ => rfl)) me_int (fun _ _ => rfl)) (ma_cons (me_ix (me_ix (me_var (pv 1)) (me_var (pv 4)) (fun _ _ => rfl)) me_int (fun _ _ => rfl)) ma_nil))))
  (mss_cons (ms_if (mt_cmp od_le (me_var (pv 5)) (me_var (pv 6)) (nomark _)) (mss_one (ms_expr (me_mut PySem.F.plainAttrs_list PySem.F.slot_list_append PySem.F.type_list_append mt_append mut_append (pv 2) (ma_cons (me_tup (ma_cons (me_var (pv 5)) (ma_cons (me_var (pv 6)) ma_nil))) ma_nil)))) mss_nil)
  (show MSs _ _ wr_both_1 from (mss_one (ms_if (mt_cmp od_lt (me_ix (me_ix (me_var (pv 0)) (me_var (pv 3)) (fun _ _ => rfl)) me_int (fun _ _ => rfl)) (me_ix (me_ix (me_var (pv 1)) (me_var (pv 4)) (fun _ _ => rfl)) me_int (fun _ _ => rfl)) (nomark _)) (mss_one (ms_set (i := 3) sc_both.nd rfl (by first | exact Or.inl rfl | exact Or.inr rfl) (me_op od_add (me_var (pv 3)) me_int))) (mss_one (ms_set (i := 4) sc_both.nd rfl (by first | exact Or.inl rfl | exact Or.inr rfl) (me_op od_add (me_var (pv 4)) me_int))))))))))
  (show MSs _ _ wr_both_3 from (mss_one (ms_ret (me_callT cd_tuple (by rfl) m_tuple (by decide +kernel) (ma_cons (me_var (pv 2)) ma_nil)))))))))) ok_both
theorem fn_either {f : Addr} {fd : FuncData} (F : Fun K "either" "either" s_either f fd)   (c_united : Callee P w K mg base 1 "united" ["pairs"] C_united)   : FnG P w K mg base CX0 2 f fd ["one", "other"] (spOf K 2 C_either) :=
  def_ok (k := 1) F sc_either (fun cdv A outer s H E hr hgu => (show MSs _ _ w_either from (mss_one (ms_ret (c_united.call (hr.mono (by decide)) hgu (by rfl) (ma_cons (me_op od_add (me_var (pv 0)) (me_var (pv 1))) ma_nil)))))) ok_either
theorem fn_gaps {f : Addr} {fd : FuncData} (F : Fun K "gaps" "gaps" s_gaps f fd) (m_max : mg "max" = none)  (c_both : Callee P w K mg base 1 "both" ["one", "other"] C_both) (c_united : Callee P w K mg base 1 "united" ["pairs"] C_united)   : FnG P w K mg base CX0 2 f fd ["ranges", "low", "high"] (spOf K 3 C_gaps) :=
  def_ok (k := 1) F sc_gaps (fun cdv A outer s H E hr hgu => (show MSs _ _ w_gaps from (mss_cons (ms_set (i := 3) sc_gaps.nd rfl (by first | exact Or.inl rfl | exact Or.inr rfl) (me_lst ma_nil))
  (mss_cons (ms_set (i := 4) sc_gaps.nd rfl (by first | exact Or.inl rfl | exact Or.inr rfl) (me_var (pv 1)))
  (mss_cons (ms_for (js := [5, 6]) PassesOwn.never rfl (mi_seq (me_var (pv 0))) (mg_tup rfl (mgs_cons (i := 5) sc_gaps.nd rfl (by first | exact Or.inl rfl | exact Or.inr rfl) (mgs_cons (i := 6) sc_gaps.nd rfl (by first | exact Or.inl rfl | exact Or.inr rfl) mgs_nil))) (show MSs _ _ wb_gaps_2 from (mss_cons (ms_if (mt_cmp od_lt (me_var (pv 4)) (me_var (pv 5)) (nomark _)) (mss_one (ms_expr (me_mut PySem.F.plainAttrs_list PySem.F.slot_list_append PySem.F.type_list_append mt_append mut_append (pv 3) (ma_cons (me_tup (ma_cons (me_var (pv 4)) (ma_cons (me_op od_sub (me_var (pv 5)) me_int) ma_nil))) ma_nil)))) mss_nil)
  (show MSs _ _ wr_gaps_1 from (mss_one (ms_set (i := 4) sc_gaps.nd rfl (by first | exact Or.inl rfl | exact Or.inr rfl) (me_callB (cd_max rfl) (by rfl) m_max (by decide +kernel) (ma_cons (me_var (pv 4)) (ma_cons (me_op od_add (me_var (pv 6)) me_int) ma_nil)))))))))
  (show MSs _ _ wr_gaps_3 from (mss_cons (ms_expr (me_mut PySem.F.plainAttrs_list PySem.F.slot_list_append PySem.F.type_list_append mt_append mut_append (pv 3) (ma_cons (me_tup (ma_cons (me_var (pv 4)) (ma_cons (me_var (pv 2)) ma_nil))) ma_nil)))
  (mss_one (ms_ret (c_both.call (hr.mono (by decide)) hgu (by rfl) (ma_cons (c_united.call (hr.mono (by decide)) hgu (by rfl) (ma_cons (me_lc (own := [("pair", 7)]) (js := [7]) rfl sc_gaps.nd (mi_seq (me_var (pv 3))) (blkOk_by (own := [("pair", 7)]) (N := N_gaps) (sc := defScope s_gaps) (by decide +kernel)) (by decide) (fun _ _ _ _ _ => (mg_name (i := 7) sc_gaps.nd rfl (by first | exact Or.inl rfl | exact Or.inr rfl))) (fun _ _ _ _ _ => (mts_one (mt_cmp od_le (me_ix (me_var (pv 7)) me_int (fun _ _ => rfl)) (me_ix (me_var (pv 7)) me_int (fun _ _ => rfl)) (nomark _)))) (fun _ _ _ _ _ => (me_var (pv 7)))) ma_nil)) (ma_cons (me_tup (ma_cons (me_tup (ma_cons (me_var (pv 1)) (ma_cons (me_var (pv 2)) ma_nil))) ma_nil)) ma_nil)))))))))))) ok_gaps
theorem fn_without {f : Addr} {fd : FuncData} (F : Fun K "without" "without" s_without f fd)   (c_both : Callee P w K mg base 1 "both" ["one", "other"] C_both) (c_gaps : Callee P w K mg base 2 "gaps" ["ranges", "low", "high"] C_gaps)   : FnG P w K mg base CX0 3 f fd ["one", "other"] (spOf K 2 C_without) :=
  def_ok (k := 2) F sc_without (fun cdv A outer s H E hr hgu => (show MSs _ _ w_without from (mss_cons (ms_if (mt_cmp (od_eq hr.units) (me_var (pv 0)) (me_tup ma_nil) (nomark _)) (mss_one (ms_ret (me_tup ma_nil))) mss_nil)
  (mss_one (ms_ret (c_both.call (hr.mono (by decide)) hgu (by rfl) (ma_cons (me_var (pv 0)) (ma_cons (c_gaps.call (hr.mono (by decide)) hgu (by rfl) (ma_cons (me_var (pv 1)) (ma_cons (me_ix (me_ix (me_var (pv 0)) me_int (fun _ _ => rfl)) me_int (fun _ _ => rfl)) (ma_cons (me_ix (me_ix (me_var (pv 0)) (me_neg me_int) (fun _ _ => rfl)) me_int (fun _ _ => rfl)) ma_nil)))) ma_nil)))))))) ok_without
theorem fn__law_pot {f : Addr} {fd : FuncData} (F : Fun K "_law_pot" "_law_pot" s__law_pot f fd) (m_len : mg "len" = none) (m_abs : mg "abs" = none) (m_int : mg "int" = none)     : FnG P w K mg base CX0 1 f fd ["_law_script", "_law_k"] (spOf K 2 C__law_pot) :=
  def_ok (k := 0) F sc__law_pot (fun cdv A outer s H E hr hgu => (show MSs _ _ w__law_pot from (mss_cons (ms_set (i := 2) sc__law_pot.nd rfl (by first | exact Or.inl rfl | exact Or.inr rfl) (me_if (mt_cmp od_lt (me_var (pv 1)) (me_callB cd_len (by rfl) m_len (by decide +kernel) (ma_cons (me_var (pv 0)) ma_nil)) (nomark _)) (me_ix (me_var (pv 0)) (me_var (pv 1)) (fun _ _ => rfl)) (me_op od_add (me_op od_mul me_int (me_var (pv 1))) me_int)))
  (show MSs _ _ wr__law_pot_2 from (mss_cons (ms_set (i := 3) sc__law_pot.nd rfl (by first | exact Or.inl rfl | exact Or.inr rfl) (me_op od_mul (me_op od_mod (me_callT cd_int (by rfl) m_int (by decide +kernel) (ma_cons (me_callB cd_abs (by rfl) m_abs (by decide +kernel) (ma_cons (me_var (pv 2)) ma_nil)) ma_nil)) (me_op od_pow (me_op od_pow me_int me_int) me_int)) (me_callT cd_int (by rfl) m_int (by decide +kernel) (ma_cons (me_cmp od_ge (me_callB cd_abs (by rfl) m_abs (by decide +kernel) (ma_cons (me_var (pv 2)) ma_nil)) (me_op od_pow me_int me_int) (nomark _)) ma_nil))))
  (show MSs _ _ wr__law_pot_1 from (mss_one (ms_ret (me_lst (ma_cons (me_var (pv 3)) (ma_cons (me_op od_mod (me_callT cd_int (by rfl) m_int (by decide +kernel) (ma_cons (me_op od_add (me_op od_add (me_op od_mul (me_op od_mod (me_callT cd_int (by rfl) m_int (by decide +kernel) (ma_cons (me_var (pv 2)) ma_nil)) me_int) me_int) (me_op od_mul (me_op od_mul me_int (me_var (pv 1))) (me_var (pv 1)))) me_int) ma_nil)) me_int) (ma_cons me_int ma_nil)))))))))))) ok__law_pot
theorem fn__law_draw {f : Addr} {fd : FuncData} (F : Fun K "_law_draw" "_law_draw" s__law_draw f fd) (m_int : mg "int" = none)     : FnG P w K mg base CX0 1 f fd ["_law_pot_here", "_law_many"] (spOf K 2 C__law_draw) :=
  def_ok (k := 0) F sc__law_draw (fun cdv A outer s H E hr hgu => (show MSs _ _ w__law_draw from (mss_cons (ms_if (mt_cmp od_gt (me_ix (me_var (pv 0)) me_int (fun _ _ => rfl)) me_int (nomark _)) (mss_cons (ms_set (i := 2) sc__law_draw.nd rfl (by first | exact Or.inl rfl | exact Or.inr rfl) (me_op od_mod (me_callT cd_int (by rfl) m_int (by decide +kernel) (ma_cons (me_ix (me_var (pv 0)) me_int (fun _ _ => rfl)) ma_nil)) (me_var (pv 1))))
  (show MSs _ _ wr__law_draw_2 from (mss_cons (ms_setIx (i := 0) (me_op od_fdiv (me_ix (me_var (pv 0)) me_int (fun _ _ => rfl)) (me_var (pv 1))) (pv 0) me_int)
  (show MSs _ _ wr__law_draw_1 from (mss_one (ms_ret (me_var (pv 2)))))))) mss_nil)
  (show MSs _ _ wr__law_draw_7 from (mss_cons (ms_setIx (i := 0) (me_op od_add (me_ix (me_var (pv 0)) me_int (fun _ _ => rfl)) me_int) (pv 0) me_int)
  (show MSs _ _ wr__law_draw_6 from (mss_cons (ms_set (i := 3) sc__law_draw.nd rfl (by first | exact Or.inl rfl | exact Or.inr rfl) (me_ix (me_lst (ma_cons me_int (ma_cons me_int (ma_cons me_int (ma_cons me_int (ma_cons me_int ma_nil)))))) (me_op od_mod (me_callT cd_int (by rfl) m_int (by decide +kernel) (ma_cons (me_ix (me_var (pv 0)) me_int (fun _ _ => rfl)) ma_nil)) me_int) (fun _ _ => rfl)))
  (show MSs _ _ wr__law_draw_5 from (mss_cons (ms_set (i := 4) sc__law_draw.nd rfl (by first | exact Or.inl rfl | exact Or.inr rfl) (me_op od_mod (me_callT cd_int (by rfl) m_int (by decide +kernel) (ma_cons (me_op od_pow (me_op od_add (me_op od_add (me_ix (me_var (pv 0)) me_int (fun _ _ => rfl)) (me_op od_mul (me_op od_mul me_int (me_ix (me_var (pv 0)) me_int (fun _ _ => rfl))) (me_ix (me_var (pv 0)) me_int (fun _ _ => rfl)))) me_int) me_int) ma_nil)) (me_var (pv 3))))
  (show MSs _ _ wr__law_draw_4 from (mss_cons (ms_set (i := 4) sc__law_draw.nd rfl (by first | exact Or.inl rfl | exact Or.inr rfl) (me_op od_mod (me_callT cd_int (by rfl) m_int (by decide +kernel) (ma_cons (me_op od_mul (me_var (pv 4)) (me_op od_add (me_op od_mod (me_callT cd_int (by rfl) m_int (by decide +kernel) (ma_cons (me_var (pv 4)) ma_nil)) me_int) (me_op od_mul me_int (me_ix (me_var (pv 0)) me_int (fun _ _ => rfl))))) ma_nil)) me_int))
  (show MSs _ _ wr__law_draw_3 from (mss_one (ms_ret (me_op od_mod (me_callT cd_int (by rfl) m_int (by decide +kernel) (ma_cons (me_op od_fdiv (me_var (pv 4)) me_int) ma_nil)) (me_var (pv 1))))))))))))))))) ok__law_draw
theorem fn__law_any {f : Addr} {fd : FuncData} (F : Fun K "_law_any" "_law_any" s__law_any f fd) (m_len : mg "len" = none)  (c__law_draw : Callee P w K mg base 1 "_law_draw" ["_law_pot_here", "_law_many"] C__law_draw)   : FnG P w K mg base CX0 2 f fd ["_law_pot_here", "_law_items"] (spOf K 2 C__law_any) :=
  def_ok (k := 1) F sc__law_any (fun cdv A outer s H E hr hgu => (show MSs _ _ w__law_any from (mss_one (ms_ret (me_ix (me_var (pv 1)) (c__law_draw.callP (hr.mono (by decide)) hgu (by rfl) (pv 0) (ma_cons (me_callB cd_len (by rfl) m_len (by decide +kernel) (ma_cons (me_var (pv 1)) ma_nil)) ma_nil)) (fun _ _ => rfl)))))) ok__law_any
theorem fn__law_spans {f : Addr} {fd : FuncData} (F : Fun K "_law_spans" "_law_spans" s__law_spans f fd) (m_range : mg "range" = none) (m_tuple : mg "tuple" = none)  (c__law_draw : Callee P w K mg base 1 "_law_draw" ["_law_pot_here", "_law_many"] C__law_draw) (c__law_any : Callee P w K mg base 2 "_law_any" ["_law_pot_here", "_law_items"] C__law_any)   : FnG P w K mg base CX0 3 f fd ["_law_pot_here", "_law_most", "_law_low", "_law_high"] (spOf K 4 C__law_spans) :=
  def_ok (k := 2) F sc__law_spans (fun cdv A outer s H E hr hgu => (show MSs _ _ w__law_spans from (mss_cons (ms_set (i := 4) sc__law_spans.nd rfl (by first | exact Or.inl rfl | exact Or.inr rfl) (me_op od_fdiv (me_op od_sub (me_var (pv 3)) (me_var (pv 2))) me_int))
  (show MSs _ _ wr__law_spans_6 from (mss_cons (ms_par (i := 5) (j := 6) rfl sc__law_spans.nd rfl rfl (by decide) rfl rfl (me_lst ma_nil) (me_op od_add (me_var (pv 2)) (c__law_draw.callP (hr.mono (by decide)) hgu (by rfl) (pv 0) (ma_cons (me_op od_add me_int (me_op od_fdiv (me_op od_sub (me_var (pv 3)) (me_var (pv 2))) me_int)) ma_nil))))
  (show MSs _ _ wr__law_spans_5 from (mss_cons (ms_for (js := [7]) PassesOwn.never rfl (mi_range1 (by rfl) m_range (ma_cons (c__law_draw.callP (hr.mono (by decide)) hgu (by rfl) (pv 0) (ma_cons (me_op od_add (me_var (pv 1)) me_int) ma_nil)) ma_nil)) (mg_name (i := 7) sc__law_spans.nd rfl (by first | exact Or.inl rfl | exact Or.inr rfl)) (show MSs _ _ wb__law_spans_3 from (mss_cons (ms_set (i := 8) sc__law_spans.nd rfl (by first | exact Or.inl rfl | exact Or.inr rfl) (me_op od_add (me_var (pv 6)) (c__law_any.callP (hr.mono (by decide)) hgu (by rfl) (pv 0) (ma_cons (me_lst (ma_cons me_int (ma_cons me_int (ma_cons me_int (ma_cons me_int (ma_cons me_int (ma_cons (me_var (pv 4)) ma_nil))))))) ma_nil))))
  (show MSs _ _ wr__law_spans_2 from (mss_one (ms_if (mt_cmp od_le (me_var (pv 8)) (me_var (pv 3)) (nomark _)) (mss_cons (ms_expr (me_mut PySem.F.plainAttrs_list PySem.F.slot_list_append PySem.F.type_list_append mt_append mut_append (pv 5) (ma_cons (me_tup (ma_cons (me_var (pv 6)) (ma_cons (me_var (pv 8)) ma_nil))) ma_nil)))
  (show MSs _ _ wr__law_spans_1 from (mss_one (ms_set (i := 6) sc__law_spans.nd rfl (by first | exact Or.inl rfl | exact Or.inr rfl) (me_op od_add (me_op od_add (me_var (pv 8)) me_int) (c__law_any.callP (hr.mono (by decide)) hgu (by rfl) (pv 0) (ma_cons (me_lst (ma_cons me_int (ma_cons me_int (ma_cons me_int (ma_cons me_int (ma_cons (me_var (pv 4)) ma_nil)))))) ma_nil))))))) mss_nil))))))
  (show MSs _ _ wr__law_spans_4 from (mss_one (ms_ret (me_callT cd_tuple (by rfl) m_tuple (by decide +kernel) (ma_cons (me_var (pv 5)) ma_nil)))))))))))) ok__law_spans
theorem fn__law_in {f : Addr} {fd : FuncData} (F : Fun K "_law_in" "_law_in" s__law_in f fd) (m_any : mg "any" = none)     : FnG P w K mg base CX0 1 f fd ["_law_spans_here", "_law_number"] (spOf K 2 C__law_in) :=
  def_ok (k := 0) F sc__law_in (fun cdv A outer s H E hr hgu => (show MSs _ _ w__law_in from (mss_one (ms_ret (me_callB (cd_any rfl) (by rfl) m_any (by decide +kernel) (ma_cons (me_lc (own := [("_law_low", 2), ("_law_high", 3)]) (js := [2, 3]) rfl sc__law_in.nd (mi_seq (me_var (pv 0))) (blkOk_by (own := [("_law_low", 2), ("_law_high", 3)]) (N := N__law_in) (sc := defScope s__law_in) (by decide +kernel)) (by decide) (fun _ _ _ _ _ => (mg_tup rfl (mgs_cons (i := 2) sc__law_in.nd rfl (by first | exact Or.inl rfl | exact Or.inr rfl) (mgs_cons (i := 3) sc__law_in.nd rfl (by first | exact Or.inl rfl | exact Or.inr rfl) mgs_nil)))) (fun _ _ _ _ _ => mts_nil) (fun _ _ _ _ _ => (me_chain od_le od_le (me_var (pv 2)) (me_var (pv 1)) (me_var (pv 3))))) ma_nil)))))) ok__law_in
theorem fn__law_points {f : Addr} {fd : FuncData} (F : Fun K "_law_points" "_law_points" s__law_points f fd) (m_sorted : mg "sorted" = none) (m_set : mg "set" = none)     : FnG P w K mg base CX0 1 f fd ["_law_some"] (spOf K 1 C__law_points) :=
  def_ok (k := 0) F sc__law_points (fun cdv A outer s H E hr hgu => (show MSs _ _ w__law_points from (mss_cons (ms_set (i := 1) sc__law_points.nd rfl (by first | exact Or.inl rfl | exact Or.inr rfl) (me_lst ma_nil))
  (show MSs _ _ wr__law_points_4 from (mss_cons (ms_fg (is := [2, 3, 4]) (ms_fz (is := [1]) (ms_for (js := [2]) PassesOwn.never rfl (mi_seq (me_var (pv 0))) (mg_name (i := 2) sc__law_points.nd rfl (by first | exact Or.inl rfl | exact Or.inr rfl)) (show MSs _ _ wb__law_points_2 from (mss_fgl (is := [2, 3, 4]) (js := []) (mss_one (ms_fg (is := [2, 3, 4]) (ms_for (js := [3, 4]) PassesOwn.never rfl (mi_seq (me_var (pv 2))) (mg_tup rfl (mgs_cons (i := 3) sc__law_points.nd rfl (by first | exact Or.inl rfl | exact Or.inr rfl) (mgs_cons (i := 4) sc__law_points.nd rfl (by first | exact Or.inl rfl | exact Or.inr rfl) mgs_nil))) (show MSs _ _ wb__law_points_1 from (mss_fgl (is := [3, 4]) (js := []) (mss_one (ms_fg (is := [3, 4]) (ms_expr (me_mut PySem.F.plainAttrs_list PySem.F.slot_list_extend PySem.F.type_list_extend mt_extend mut_extend (pv 1) (ma_cons (me_lst (ma_cons (me_var (pv 3)) (ma_cons (me_op od_add (me_var (pv 4)) me_int) ma_nil))) ma_nil)))))))))))))))
  (show MSs _ _ wr__law_points_3 from (mss_one (ms_ret (me_sortSet rfl (by rfl) m_sorted (by rfl) m_set (me_var (pv 1))))))))))) ok__law_points
theorem gl__law_made {f : Addr} {fd : FuncData} (F : Fun K "_law_made" "_law_made" s__law_made f fd) (hm : mg "_law_made" = some (.ref f)) (hk : PySem.W.keepIn K (.ref f) = true) (hb : L2.Binds K fd ["_law_points_here", "_law_is_in"] []) (m_len : mg "len" = none) (m_range : mg "range" = none) (m_tuple : mg "tuple" = none)     : CalleeL1 P w K mg base 2 "_law_made" "_law_is_in" C__law_made :=
  ⟨f, fd, s__law_made, N__law_made, "_law_points_here", F, sc__law_made, rfl, .inl rfl, hm, hk, hb, fun cdv A outer s H E hr hgu d L act => ⟨w__law_made d L, (show MSs _ _ (w__law_made d L) from (mss_cons (ms_set (i := 2) sc__law_made.nd rfl (by first | exact Or.inl rfl | exact Or.inr rfl) (me_lst ma_nil))
  (show MSs _ _ (wr__law_made_4 d L) from (mss_cons (ms_fg (is := [3, 4, 5]) (ms_fz (is := [2]) (ms_for (js := [3]) PassesOwn.never rfl (mi_range1 (by rfl) m_range (ma_cons (me_op od_sub (me_callB cd_len (by rfl) m_len (by decide +kernel) (ma_cons (me_var (pv 0)) ma_nil)) me_int) ma_nil)) (mg_name (i := 3) sc__law_made.nd rfl (by first | exact Or.inl rfl | exact Or.inr rfl)) (show MSs _ _ (wb__law_made_2 d L) from (mss_fgl (is := [3, 4, 5]) (js := []) (mss_cons (ms_fg (is := [3]) (ms_par (i := 4) (j := 5) rfl sc__law_made.nd rfl rfl (by decide) rfl rfl (me_ix (me_var (pv 0)) (me_var (pv 3)) (fun _ _ => rfl)) (me_op od_sub (me_ix (me_var (pv 0)) (me_op od_add (me_var (pv 3)) me_int) (fun _ _ => rfl)) me_int)))
  (show MSs _ _ (wr__law_made_1 d L) from (mss_one (ms_fg (is := [4, 5]) (ms_if (mw_pt (mw_and (mt_val (act _ _ _ _ (me_var (pv 4)) (by rfl))) (mw_and (mt_cmp (od_ne hr.units) (me_var (pv 2)) (me_lst ma_nil) (nomark _)) (mw_and1 (mt_cmp (od_eq hr.units) (me_ix (me_ix (me_var (pv 2)) (me_neg me_int) (fun _ _ => rfl)) me_int (fun _ _ => rfl)) (me_op od_sub (me_var (pv 4)) me_int) (nomark _)))))) (mss_one (ms_fg (is := [5]) (ms_setIx (i := 2) (me_tup (ma_cons (me_ix (me_ix (me_var (pv 2)) (me_neg me_int) (fun _ _ => rfl)) me_int (fun _ _ => rfl)) (ma_cons (me_var (pv 5)) ma_nil))) (pv 2) (me_neg me_int)))) (mss_one (ms_fg (is := [4, 5]) (ms_if (mt_val (act _ _ _ _ (me_var (pv 4)) (by rfl))) (mss_one (ms_fg (is := [4, 5]) (ms_expr (me_mut PySem.F.plainAttrs_list PySem.F.slot_list_append PySem.F.type_list_append mt_append mut_append (pv 2) (ma_cons (me_tup (ma_cons (me_var (pv 4)) (ma_cons (me_var (pv 5)) ma_nil))) ma_nil))))) mss_nil)))))))))))))
  (show MSs _ _ (wr__law_made_3 d L) from (mss_one (ms_ret (me_callT cd_tuple (by rfl) m_tuple (by decide +kernel) (ma_cons (me_var (pv 2)) ma_nil))))))))), fun p Q h => ok__law_made d L p Q h⟩⟩
theorem fn__law_poured {f : Addr} {fd : FuncData} (F : Fun K "_law_poured" "_law_poured" s__law_poured f fd) (m_sorted : mg "sorted" = none) (m_max : mg "max" = none) (m_tuple : mg "tuple" = none)     : FnG P w K mg base CX0 1 f fd ["_law_pairs"] (spOf K 1 C__law_poured) :=
  def_ok (k := 0) F sc__law_poured (fun cdv A outer s H E hr hgu => (show MSs _ _ w__law_poured from (mss_cons (ms_set (i := 1) sc__law_poured.nd rfl (by first | exact Or.inl rfl | exact Or.inr rfl) (me_lst ma_nil))
  (show MSs _ _ wr__law_poured_3 from (mss_cons (ms_fg (is := [2, 3]) (ms_fz (is := [1]) (ms_for (js := [2, 3]) PassesOwn.never rfl (mi_seq (me_callB cd_sortP (by rfl) m_sorted (by decide +kernel) (ma_cons (me_var (pv 0)) ma_nil))) (mg_tup rfl (mgs_cons (i := 2) sc__law_poured.nd rfl (by first | exact Or.inl rfl | exact Or.inr rfl) (mgs_cons (i := 3) sc__law_poured.nd rfl (by first | exact Or.inl rfl | exact Or.inr rfl) mgs_nil))) (show MSs _ _ wb__law_poured_1 from (mss_fgl (is := [2, 3]) (js := []) (mss_one (ms_fg (is := [2, 3]) (ms_if (mw_pt (mw_and (mt_cmp (od_ne hr.units) (me_var (pv 1)) (me_lst ma_nil) (nomark _)) (mw_and1 (mt_cmp od_le (me_var (pv 2)) (me_op od_add (me_ix (me_ix (me_var (pv 1)) (me_neg me_int) (fun _ _ => rfl)) me_int (fun _ _ => rfl)) me_int) (nomark _))))) (mss_one (ms_fg (is := [3]) (ms_setIx (i := 1) (me_tup (ma_cons (me_ix (me_ix (me_var (pv 1)) (me_neg me_int) (fun _ _ => rfl)) me_int (fun _ _ => rfl)) (ma_cons (me_callB (cd_max rfl) (by rfl) m_max (by decide +kernel) (ma_cons (me_ix (me_ix (me_var (pv 1)) (me_neg me_int) (fun _ _ => rfl)) me_int (fun _ _ => rfl)) (ma_cons (me_var (pv 3)) ma_nil))) ma_nil))) (pv 1) (me_neg me_int)))) (mss_one (ms_fg (is := [2, 3]) (ms_expr (me_mut PySem.F.plainAttrs_list PySem.F.slot_list_append PySem.F.type_list_append mt_append mut_append (pv 1) (ma_cons (me_tup (ma_cons (me_var (pv 2)) (ma_cons (me_var (pv 3)) ma_nil))) ma_nil)))))))))))))
  (show MSs _ _ wr__law_poured_2 from (mss_one (ms_ret (me_callT cd_tuple (by rfl) m_tuple (by decide +kernel) (ma_cons (me_var (pv 1)) ma_nil)))))))))) ok__law_poured
theorem fn__law_numbers {f : Addr} {fd : FuncData} (F : Fun K "_law_numbers" "_law_numbers" s__law_numbers f fd) (m_list : mg "list" = none) (m_range : mg "range" = none)     : FnG P w K mg base CX0 1 f fd ["_law_spans_here"] (spOf K 1 C__law_numbers) :=
  def_ok (k := 0) F sc__law_numbers (fun cdv A outer s H E hr hgu => (show MSs _ _ w__law_numbers from (mss_cons (ms_set (i := 1) sc__law_numbers.nd rfl (by first | exact Or.inl rfl | exact Or.inr rfl) (me_lst ma_nil))
  (show MSs _ _ wr__law_numbers_3 from (mss_cons (ms_fg (is := [2, 3]) (ms_for (js := [2, 3]) PassesOwn.never rfl (mi_seq (me_var (pv 0))) (mg_tup rfl (mgs_cons (i := 2) sc__law_numbers.nd rfl (by first | exact Or.inl rfl | exact Or.inr rfl) (mgs_cons (i := 3) sc__law_numbers.nd rfl (by first | exact Or.inl rfl | exact Or.inr rfl) mgs_nil))) (show MSs _ _ wb__law_numbers_1 from (mss_fgl (is := [2, 3]) (js := []) (mss_one (ms_fg (is := [2, 3]) (ms_expr (me_mut PySem.F.plainAttrs_list PySem.F.slot_list_extend PySem.F.type_list_extend mt_extend mut_extend (pv 1) (ma_cons (me_lstRg rfl (by rfl) m_list (by rfl) m_range (me_var (pv 2)) (me_op od_add (me_var (pv 3)) me_int)) ma_nil)))))))))
  (show MSs _ _ wr__law_numbers_2 from (mss_one (ms_ret (me_var (pv 1)))))))))) ok__law_numbers
theorem fn__law_of_numbers {f : Addr} {fd : FuncData} (F : Fun K "_law_of_numbers" "_law_of_numbers" s__law_of_numbers f fd)   (c__law_poured : Callee P w K mg base 1 "_law_poured" ["_law_pairs"] C__law_poured)   : FnG P w K mg base CX0 2 f fd ["_law_numbers_here"] (spOf K 1 C__law_of_numbers) :=
  def_ok (k := 1) F sc__law_of_numbers (fun cdv A outer s H E hr hgu => (show MSs _ _ w__law_of_numbers from (mss_one (ms_ret (c__law_poured.call (hr.mono (by decide)) hgu (by rfl) (ma_cons (me_lc (own := [("_law_number", 1)]) (js := [1]) rfl sc__law_of_numbers.nd (mi_seq (me_var (pv 0))) (blkOk_by (own := [("_law_number", 1)]) (N := N__law_of_numbers) (sc := defScope s__law_of_numbers) (by decide +kernel)) (by decide) (fun _ _ _ _ _ => (mg_name (i := 1) sc__law_of_numbers.nd rfl (by first | exact Or.inl rfl | exact Or.inr rfl))) (fun _ _ _ _ _ => mts_nil) (fun _ _ _ _ _ => (me_tup (ma_cons (me_var (pv 1)) (ma_cons (me_var (pv 1)) ma_nil))))) ma_nil)))))) ok__law_of_numbers
theorem fn__law_pair {f : Addr} {fd : FuncData} (F : Fun K "_law_pair" "_law_pair" s__law_pair f fd)   (c__law_any : Callee P w K mg base 2 "_law_any" ["_law_pot_here", "_law_items"] C__law_any) (c__law_spans : Callee P w K mg base 3 "_law_spans" ["_law_pot_here", "_law_most", "_law_low", "_law_high"] C__law_spans)   : FnG P w K mg base CX0 4 f fd ["_law_pot_here"] (spOf K 1 C__law_pair) :=
  def_ok (k := 3) F sc__law_pair (fun cdv A outer s H E hr hgu => (show MSs _ _ w__law_pair from (mss_cons (ms_fz (is := [1]) (ms_set (i := 1) sc__law_pair.nd rfl (by first | exact Or.inl rfl | exact Or.inr rfl) (c__law_any.callP (hr.mono (by decide)) hgu (by rfl) (pv 0) (ma_cons (me_lst (ma_cons me_int (ma_cons me_int (ma_cons me_int (ma_cons (me_op od_pow me_int me_int) ma_nil))))) ma_nil))))
  (show MSs _ _ wr__law_pair_3 from (mss_cons (ms_fz (is := [2]) (ms_set (i := 2) sc__law_pair.nd rfl (by first | exact Or.inl rfl | exact Or.inr rfl) (c__law_spans.callP (hr.mono (by decide)) hgu (by rfl) (pv 0) (ma_cons me_int (ma_cons (me_op od_sub me_int (me_var (pv 1))) (ma_cons (me_var (pv 1)) ma_nil))))))
  (show MSs _ _ wr__law_pair_2 from (mss_cons (ms_fz (is := [3]) (ms_set (i := 3) sc__law_pair.nd rfl (by first | exact Or.inl rfl | exact Or.inr rfl) (c__law_any.callP (hr.mono (by decide)) hgu (by rfl) (pv 0) (ma_cons (me_lst (ma_cons (c__law_spans.callP (hr.mono (by decide)) hgu (by rfl) (pv 0) (ma_cons me_int (ma_cons (me_op od_sub me_int (me_var (pv 1))) (ma_cons (me_var (pv 1)) ma_nil)))) (ma_cons (c__law_spans.callP (hr.mono (by decide)) hgu (by rfl) (pv 0) (ma_cons me_int (ma_cons me_int (ma_cons (me_var (pv 1)) ma_nil)))) (ma_cons (me_var (pv 2)) (ma_cons (me_slice (me_var (pv 2)) (mo_some me_int) mo_none) (ma_cons (me_tup ma_nil) ma_nil)))))) ma_nil))))
  (show MSs _ _ wr__law_pair_1 from (mss_one (ms_ret (me_tup (ma_cons (me_var (pv 2)) (ma_cons (me_var (pv 3)) (ma_cons (me_cmp od_lt (me_var (pv 1)) me_int (nomark _)) ma_nil)))))))))))))) ok__law_pair
theorem fn__law_due {f : Addr} {fd : FuncData} {cA PA : Addr} (F : Fun K "_law_due" "_law_due" s__law_due f fd) (hTB : LamX.TabB base mg cA PA) (hfc : fd.code = .ref cA) (hnm : TabN.nm PA = some (("_law_due" : Str) ++ ".<locals>." ++ "<lambda>"))   (c__law_numbers : Callee P w K mg base 1 "_law_numbers" ["_law_spans_here"] C__law_numbers) (c__law_of_numbers : Callee P w K mg base 2 "_law_of_numbers" ["_law_numbers_here"] C__law_of_numbers) (c__law_points : Callee P w K mg base 1 "_law_points" ["_law_some"] C__law_points) (c__law_in : Callee P w K mg base 1 "_law_in" ["_law_spans_here", "_law_number"] C__law_in)  (l__law_made : CalleeL1 P w K mg base 2 "_law_made" "_law_is_in" C__law_made) : FnG P w K mg base CX0 4 f fd ["_law_first", "_law_second", "_law_is_small"] (spOf K 3 C__law_due) :=
  def_okL (k := 3) F sc__law_due (fun cdv A outer s H E hcd hr hgu => (show MSs _ _ w__law_due from (mss_cons (ms_fg (is := [3, 4, 5]) (ms_if (mt_val (me_var (pv 2))) (mss_cons (ms_fz (is := [3, 4]) (ms_tupAsg (is := [3, 4]) rfl (ma2_cons (c__law_numbers.call (hr.mono (by decide)) hgu (by rfl) (ma_cons (me_var (pv 0)) ma_nil)) (ma2_cons (c__law_numbers.call (hr.mono (by decide)) hgu (by rfl) (ma_cons (me_var (pv 1)) ma_nil)) ma2_nil)) (mgn_cons (i := 3) sc__law_due.nd rfl (by first | exact Or.inl rfl | exact Or.inr rfl) (mgn_cons (i := 4) sc__law_due.nd rfl (by first | exact Or.inl rfl | exact Or.inr rfl) mgn_nil))))
  (show MSs _ _ wr__law_due_2 from (mss_cons (ms_fg (is := [3, 4]) (ms_fz (is := [5]) (ms_set (i := 5) sc__law_due.nd rfl (by first | exact Or.inl rfl | exact Or.inr rfl) (me_lst (ma_cons (me_lc (own := [("_law_n", 6)]) (js := [6]) rfl sc__law_due.nd (mi_seq (me_var (pv 3))) (blkOk_by (own := [("_law_n", 6)]) (N := N__law_due) (sc := defScope s__law_due) (by decide +kernel)) (by decide) (fun _ _ _ _ _ => (mg_name (i := 6) sc__law_due.nd rfl (by first | exact Or.inl rfl | exact Or.inr rfl))) (fun _ _ _ _ _ => (mts_one (mt_cmp od_in (me_var (pv 6)) (me_var (pv 4)) (by rfl)))) (fun _ _ _ _ _ => (me_var (pv 6)))) (ma_cons (me_op od_add (me_var (pv 3)) (me_var (pv 4))) (ma_cons (me_lc (own := [("_law_n", 6)]) (js := [6]) rfl sc__law_due.nd (mi_seq (me_var (pv 3))) (blkOk_by (own := [("_law_n", 6)]) (N := N__law_due) (sc := defScope s__law_due) (by decide +kernel)) (by decide) (fun _ _ _ _ _ => (mg_name (i := 6) sc__law_due.nd rfl (by first | exact Or.inl rfl | exact Or.inr rfl))) (fun _ _ _ _ _ => (mts_one (mt_cmp od_notin (me_var (pv 6)) (me_var (pv 4)) (by rfl)))) (fun _ _ _ _ _ => (me_var (pv 6)))) ma_nil)))))))
  (show MSs _ _ wr__law_due_1 from (mss_one (ms_ret (me_lc (own := [("_law_numbers_here", 7)]) (js := [7]) rfl sc__law_due.nd (mi_seq (me_var (pv 5))) (blkOk_by (own := [("_law_numbers_here", 7)]) (N := N__law_due) (sc := defScope s__law_due) (by decide +kernel)) (by decide) (fun _ _ _ _ _ => (mg_name (i := 7) sc__law_due.nd rfl (by first | exact Or.inl rfl | exact Or.inr rfl))) (fun _ _ _ _ _ => mts_nil) (fun _ _ _ _ _ => (c__law_of_numbers.call (hr.mono (by decide)) hgu (by rfl) (ma_cons (me_var (pv 7)) ma_nil)))))))))) mss_nil))
  (show MSs _ _ wr__law_due_6 from (mss_cons (ms_fz (is := [8]) (ms_set (i := 8) sc__law_due.nd rfl (by first | exact Or.inl rfl | exact Or.inr rfl) (c__law_points.call (hr.mono (by decide)) hgu (by rfl) (ma_cons (me_lst (ma_cons (me_var (pv 0)) (ma_cons (me_var (pv 1)) ma_nil))) ma_nil))))
  (show MSs _ _ wr__law_due_5 from (mss_cons (ms_set (i := 9) sc__law_due.nd rfl (by first | exact Or.inl rfl | exact Or.inr rfl) (me_lst (ma_cons (me_lam1 (js := [0, 1]) (k := 1) l__law_made ⟨⟨cA, PA, hTB, hcd.symm.trans hfc, hnm⟩⟩ (hr.mono (by decide)) hgu rfl (lamS1_by (by kernel_rfl)) (fun j hj => by simp only [List.mem_cons, List.not_mem_nil, or_false] at hj; rcases hj with rfl | rfl <;> exact ⟨_, rfl, by decide +kernel⟩) rfl (fun _ _ _ _ _ _ => rfl) (fun A outer s H E f c hr hgu => (show ME _ _ (wAndV (wCall C__law_in [(wVar 0), (wVar 10)]) (wCall C__law_in [(wVar 1), (wVar 10)])) from (me_and (c__law_in.call (hr.mono (by decide)) hgu (by rfl) (ma_cons (me_var (pv 0)) (ma_cons (me_var (pv 10)) ma_nil))) (me_one (c__law_in.call (hr.mono (by decide)) hgu (by rfl) (ma_cons (me_var (pv 1)) (ma_cons (me_var (pv 10)) ma_nil))))))) (me_var (pv 8))) ma_nil)))
  (show MSs _ _ wr__law_due_4 from (mss_cons (ms_fz (is := [9]) (ms_expr (me_mut PySem.F.plainAttrs_list PySem.F.slot_list_append PySem.F.type_list_append mt_append mut_append (pv 9) (ma_cons (me_lam1 (js := [0, 1]) (k := 1) l__law_made ⟨⟨cA, PA, hTB, hcd.symm.trans hfc, hnm⟩⟩ (hr.mono (by decide)) hgu rfl (lamS1_by (by kernel_rfl)) (fun j hj => by simp only [List.mem_cons, List.not_mem_nil, or_false] at hj; rcases hj with rfl | rfl <;> exact ⟨_, rfl, by decide +kernel⟩) rfl (fun _ _ _ _ _ _ => rfl) (fun A outer s H E f c hr hgu => (show ME _ _ (wOrV (wCall C__law_in [(wVar 0), (wVar 10)]) (wCall C__law_in [(wVar 1), (wVar 10)])) from (me_or (c__law_in.call (hr.mono (by decide)) hgu (by rfl) (ma_cons (me_var (pv 0)) (ma_cons (me_var (pv 10)) ma_nil))) (me_one (c__law_in.call (hr.mono (by decide)) hgu (by rfl) (ma_cons (me_var (pv 1)) (ma_cons (me_var (pv 10)) ma_nil))))))) (me_var (pv 8))) ma_nil))))
  (show MSs _ _ wr__law_due_3 from (mss_one (ms_ret (me_op od_add (me_var (pv 9)) (me_lst (ma_cons (me_lam1 (js := [0, 1]) (k := 1) l__law_made ⟨⟨cA, PA, hTB, hcd.symm.trans hfc, hnm⟩⟩ (hr.mono (by decide)) hgu rfl (lamS1_by (by kernel_rfl)) (fun j hj => by simp only [List.mem_cons, List.not_mem_nil, or_false] at hj; rcases hj with rfl | rfl <;> exact ⟨_, rfl, by decide +kernel⟩) rfl (fun _ _ _ _ _ _ => rfl) (fun A outer s H E f c hr hgu => (show ME _ _ (wAndV (wCall C__law_in [(wVar 0), (wVar 10)]) (wNotV (wCall C__law_in [(wVar 1), (wVar 10)]))) from (me_and (c__law_in.call (hr.mono (by decide)) hgu (by rfl) (ma_cons (me_var (pv 0)) (ma_cons (me_var (pv 10)) ma_nil))) (me_one (me_not (c__law_in.call (hr.mono (by decide)) hgu (by rfl) (ma_cons (me_var (pv 1)) (ma_cons (me_var (pv 10)) ma_nil)))))))) (me_var (pv 8))) ma_nil))))))))))))))) ok__law_due
theorem fn__law_right {f : Addr} {fd : FuncData} (F : Fun K "_law_right" "_law_right" s__law_right f fd) (m_range : mg "range" = none) (m_repr : mg "repr" = none)  (c__law_pair : Callee P w K mg base 4 "_law_pair" ["_law_pot_here"] C__law_pair) (c__law_due : Callee P w K mg base 4 "_law_due" ["_law_first", "_law_second", "_law_is_small"] C__law_due) (c_both : Callee P w K mg base 1 "both" ["one", "other"] C_both) (c_either : Callee P w K mg base 2 "either" ["one", "other"] C_either) (c_without : Callee P w K mg base 3 "without" ["one", "other"] C_without) (k_both_1_0 : CalleeK P w K mg base 1 "both" ["one", "other"] ["other", "one"] [1, 0] C_both) (k_either_1_0 : CalleeK P w K mg base 2 "either" ["one", "other"] ["other", "one"] [1, 0] C_either) (k_without_1_0 : CalleeK P w K mg base 3 "without" ["one", "other"] ["other", "one"] [1, 0] C_without)  : FnG P w K mg base CX0 5 f fd ["_law_pot_here"] (spOf K 1 C__law_right) :=
  def_ok (k := 4) F sc__law_right (fun cdv A outer s H E hr hgu => (show MSs _ _ w__law_right from (mss_cons (ms_fg (is := [1, 2, 3, 4, 5, 6]) (ms_for (js := [1]) PassesOwn.never rfl (mi_range1 (by rfl) m_range (ma_cons me_int ma_nil)) (mg_name (i := 1) sc__law_right.nd rfl (by first | exact Or.inl rfl | exact Or.inr rfl)) (show MSs _ _ wb__law_right_5 from (mss_fgl (is := [1, 2, 3, 4, 5, 6]) (js := []) (mss_cons (ms_asg (js := [2, 3, 4]) (c__law_pair.callP (hr.mono (by decide)) hgu (by rfl) (pv 0) ma_nil) (mg_tup rfl (mgs_cons (i := 2) sc__law_right.nd rfl (by first | exact Or.inl rfl | exact Or.inr rfl) (mgs_cons (i := 3) sc__law_right.nd rfl (by first | exact Or.inl rfl | exact Or.inr rfl) (mgs_cons (i := 4) sc__law_right.nd rfl (by first | exact Or.inl rfl | exact Or.inr rfl) mgs_nil)))))
  (show MSs _ _ wr__law_right_4 from (mss_cons (ms_fg (is := [4]) (ms_set (i := 5) sc__law_right.nd rfl (by first | exact Or.inl rfl | exact Or.inr rfl) (me_callB (cd_repr hgu hr.units) (by rfl) m_repr (by decide +kernel) (ma_cons (c__law_due.call (hr.mono (by decide)) hgu (by rfl) (ma_cons (me_var (pv 2)) (ma_cons (me_var (pv 3)) (ma_cons (me_var (pv 4)) ma_nil)))) ma_nil))))
  (show MSs _ _ wr__law_right_3 from (mss_cons (ms_if (mt_cmp (od_ne hr.units) (me_callB (cd_repr hgu hr.units) (by rfl) m_repr (by decide +kernel) (ma_cons (me_lst (ma_cons (c_both.call (hr.mono (by decide)) hgu (by rfl) (ma_cons (me_var (pv 2)) (ma_cons (me_var (pv 3)) ma_nil))) (ma_cons (c_either.call (hr.mono (by decide)) hgu (by rfl) (ma_cons (me_var (pv 2)) (ma_cons (me_var (pv 3)) ma_nil))) (ma_cons (c_without.call (hr.mono (by decide)) hgu (by rfl) (ma_cons (me_var (pv 2)) (ma_cons (me_var (pv 3)) ma_nil))) ma_nil)))) ma_nil)) (me_var (pv 5)) (nomark _)) (mss_one (ms_ret me_bl)) mss_nil)
  (show MSs _ _ wr__law_right_2 from (mss_cons (ms_fg (is := [2, 3]) (ms_fz (is := [6]) (ms_set (i := 6) sc__law_right.nd rfl (by first | exact Or.inl rfl | exact Or.inr rfl) (me_lst (ma_cons (k_both_1_0.callK (hr.mono (by decide)) hgu (by rfl) (mk_cons (me_var (pv 3)) (mk_cons (me_var (pv 2)) mk_nil))) (ma_cons (k_either_1_0.callK (hr.mono (by decide)) hgu (by rfl) (mk_cons (me_var (pv 3)) (mk_cons (me_var (pv 2)) mk_nil))) (ma_cons (k_without_1_0.callK (hr.mono (by decide)) hgu (by rfl) (mk_cons (me_var (pv 3)) (mk_cons (me_var (pv 2)) mk_nil))) ma_nil)))))))
  (show MSs _ _ wr__law_right_1 from (mss_one (ms_fg (is := [5, 6]) (ms_if (mt_cmp (od_ne hr.units) (me_callB (cd_repr hgu hr.units) (by rfl) m_repr (by decide +kernel) (ma_cons (me_var (pv 6)) ma_nil)) (me_var (pv 5)) (nomark _)) (mss_one (ms_ret me_bl)) mss_nil)))))))))))))))
  (show MSs _ _ wr__law_right_6 from (mss_one (ms_ret me_bl)))))) ok__law_right
theorem fn_law {f : Addr} {fd : FuncData} (F : Fun K "law" "law" s_law f fd) (m_len : mg "len" = none) (m_min : mg "min" = none) (m_max : mg "max" = none) (m_range : mg "range" = none)  (c__law_right : Callee P w K mg base 5 "_law_right" ["_law_pot_here"] C__law_right) (c__law_pot : Callee P w K mg base 1 "_law_pot" ["_law_script", "_law_k"] C__law_pot)   : FnG P w K mg base CX0 6 f fd ["_law_script"] (spOf K 1 C_law) :=
  def_ok (k := 5) F sc_law (fun cdv A outer s H E hr hgu => (show MSs _ _ w_law from (mss_cons (ms_fg (is := [1]) (ms_for (js := [1]) PassesOwn.never rfl (mi_range1 (by rfl) m_range (ma_cons (me_callB (cd_max rfl) (by rfl) m_max (by decide +kernel) (ma_cons me_int (ma_cons (me_callB (cd_min rfl) (by rfl) m_min (by decide +kernel) (ma_cons me_int (ma_cons (me_callB cd_len (by rfl) m_len (by decide +kernel) (ma_cons (me_var (pv 0)) ma_nil)) ma_nil))) ma_nil))) ma_nil)) (mg_name (i := 1) sc_law.nd rfl (by first | exact Or.inl rfl | exact Or.inr rfl)) (show MSs _ _ wb_law_1 from (mss_fgl (is := [1]) (js := []) (mss_one (ms_fg (is := [1]) (ms_if (mt_not (mt_val (c__law_right.callN (hr.mono (by decide)) hgu (by rfl) (c__law_pot.call (hr.mono (by decide)) hgu (by rfl) (ma_cons (me_var (pv 0)) (ma_cons (me_var (pv 1)) ma_nil)))))) (mss_one (ms_ret me_bl)) mss_nil)))))))
  (show MSs _ _ wr_law_2 from (mss_one (ms_ret me_bl)))))) ok_law
end
end Lw
namespace Lw
open PySem L2 Dl Rs
set_option maxHeartbeats 0 in
theorem all_mk [TabN] {cA PA : Addr} {l : PySem.W.OpenLaw} {w : World} {K : PySem.W.Frag} {h : Heap} {mg : Str → Option Value} {fa : Addr} (X : K.In h) (G : h.Ns mainGlobals mg) (hfa : mg "law" = some (.ref fa))
    {f0 : Addr} {od0 an0 : Option Addr} {sl0 : Array (Option Value)} {oc0 kV0 dc0 pm0 cd0 ct0 : Value}
    {f1 : Addr} {od1 an1 : Option Addr} {sl1 : Array (Option Value)} {oc1 kV1 dc1 pm1 cd1 ct1 : Value}
    {f2 : Addr} {od2 an2 : Option Addr} {sl2 : Array (Option Value)} {oc2 kV2 dc2 pm2 cd2 ct2 : Value}
    {f3 : Addr} {od3 an3 : Option Addr} {sl3 : Array (Option Value)} {oc3 kV3 dc3 pm3 cd3 ct3 : Value}
    {f4 : Addr} {od4 an4 : Option Addr} {sl4 : Array (Option Value)} {oc4 kV4 dc4 pm4 cd4 ct4 : Value}
    {f5 : Addr} {od5 an5 : Option Addr} {sl5 : Array (Option Value)} {oc5 kV5 dc5 pm5 cd5 ct5 : Value}
    {f6 : Addr} {od6 an6 : Option Addr} {sl6 : Array (Option Value)} {oc6 kV6 dc6 pm6 cd6 ct6 : Value}
    {f7 : Addr} {od7 an7 : Option Addr} {sl7 : Array (Option Value)} {oc7 kV7 dc7 pm7 cd7 ct7 : Value}
    {f8 : Addr} {od8 an8 : Option Addr} {sl8 : Array (Option Value)} {oc8 kV8 dc8 pm8 cd8 ct8 : Value}
    {f9 : Addr} {od9 an9 : Option Addr} {sl9 : Array (Option Value)} {oc9 kV9 dc9 pm9 cd9 ct9 : Value}
    {f10 : Addr} {od10 an10 : Option Addr} {sl10 : Array (Option Value)} {oc10 kV10 dc10 pm10 cd10 ct10 : Value}
    {f11 : Addr} {od11 an11 : Option Addr} {sl11 : Array (Option Value)} {oc11 kV11 dc11 pm11 cd11 ct11 : Value}
    {f12 : Addr} {od12 an12 : Option Addr} {sl12 : Array (Option Value)} {oc12 kV12 dc12 pm12 cd12 ct12 : Value}
    {f13 : Addr} {od13 an13 : Option Addr} {sl13 : Array (Option Value)} {oc13 kV13 dc13 pm13 cd13 ct13 : Value}
    {f14 : Addr} {od14 an14 : Option Addr} {sl14 : Array (Option Value)} {oc14 kV14 dc14 pm14 cd14 ct14 : Value}
    {f15 : Addr} {od15 an15 : Option Addr} {sl15 : Array (Option Value)} {oc15 kV15 dc15 pm15 cd15 ct15 : Value}
    {f16 : Addr} {od16 an16 : Option Addr} {sl16 : Array (Option Value)} {oc16 kV16 dc16 pm16 cd16 ct16 : Value}
    {f17 : Addr} {od17 an17 : Option Addr} {sl17 : Array (Option Value)} {oc17 kV17 dc17 pm17 cd17 ct17 : Value}
    {f18 : Addr} {od18 an18 : Option Addr} {sl18 : Array (Option Value)} {oc18 kV18 dc18 pm18 cd18 ct18 : Value}
    (a0 : PySem.W.nsIn K mainGlobals "united" = some (some (.ref f0)))
    (l0 : K.lookup f0 = some ⟨oc0, od0, .func (PySem.W.fnOf "united" "united" (defArgs s_united) (defBody s_united) (defScope s_united) .none kV0 dc0 pm0 an0 cd0 ct0), sl0⟩) (c0 : PySem.W.codeIn K cd0 "united" = true) (k0 : PySem.W.keepIn K (.ref f0) = true)
    (a1 : PySem.W.nsIn K mainGlobals "both" = some (some (.ref f1)))
    (l1 : K.lookup f1 = some ⟨oc1, od1, .func (PySem.W.fnOf "both" "both" (defArgs s_both) (defBody s_both) (defScope s_both) .none kV1 dc1 pm1 an1 cd1 ct1), sl1⟩) (c1 : PySem.W.codeIn K cd1 "both" = true) (k1 : PySem.W.keepIn K (.ref f1) = true)
    (a2 : PySem.W.nsIn K mainGlobals "either" = some (some (.ref f2)))
    (l2 : K.lookup f2 = some ⟨oc2, od2, .func (PySem.W.fnOf "either" "either" (defArgs s_either) (defBody s_either) (defScope s_either) .none kV2 dc2 pm2 an2 cd2 ct2), sl2⟩) (c2 : PySem.W.codeIn K cd2 "either" = true) (k2 : PySem.W.keepIn K (.ref f2) = true)
    (a3 : PySem.W.nsIn K mainGlobals "gaps" = some (some (.ref f3)))
    (l3 : K.lookup f3 = some ⟨oc3, od3, .func (PySem.W.fnOf "gaps" "gaps" (defArgs s_gaps) (defBody s_gaps) (defScope s_gaps) .none kV3 dc3 pm3 an3 cd3 ct3), sl3⟩) (c3 : PySem.W.codeIn K cd3 "gaps" = true) (k3 : PySem.W.keepIn K (.ref f3) = true)
    (a4 : PySem.W.nsIn K mainGlobals "without" = some (some (.ref f4)))
    (l4 : K.lookup f4 = some ⟨oc4, od4, .func (PySem.W.fnOf "without" "without" (defArgs s_without) (defBody s_without) (defScope s_without) .none kV4 dc4 pm4 an4 cd4 ct4), sl4⟩) (c4 : PySem.W.codeIn K cd4 "without" = true) (k4 : PySem.W.keepIn K (.ref f4) = true)
    (a5 : PySem.W.nsIn K mainGlobals "_law_pot" = some (some (.ref f5)))
    (l5 : K.lookup f5 = some ⟨oc5, od5, .func (PySem.W.fnOf "_law_pot" "_law_pot" (defArgs s__law_pot) (defBody s__law_pot) (defScope s__law_pot) .none kV5 dc5 pm5 an5 cd5 ct5), sl5⟩) (c5 : PySem.W.codeIn K cd5 "_law_pot" = true) (k5 : PySem.W.keepIn K (.ref f5) = true)
    (a6 : PySem.W.nsIn K mainGlobals "_law_draw" = some (some (.ref f6)))
    (l6 : K.lookup f6 = some ⟨oc6, od6, .func (PySem.W.fnOf "_law_draw" "_law_draw" (defArgs s__law_draw) (defBody s__law_draw) (defScope s__law_draw) .none kV6 dc6 pm6 an6 cd6 ct6), sl6⟩) (c6 : PySem.W.codeIn K cd6 "_law_draw" = true) (k6 : PySem.W.keepIn K (.ref f6) = true)
    (a7 : PySem.W.nsIn K mainGlobals "_law_any" = some (some (.ref f7)))
    (l7 : K.lookup f7 = some ⟨oc7, od7, .func (PySem.W.fnOf "_law_any" "_law_any" (defArgs s__law_any) (defBody s__law_any) (defScope s__law_any) .none kV7 dc7 pm7 an7 cd7 ct7), sl7⟩) (c7 : PySem.W.codeIn K cd7 "_law_any" = true) (k7 : PySem.W.keepIn K (.ref f7) = true)
    (a8 : PySem.W.nsIn K mainGlobals "_law_spans" = some (some (.ref f8)))
    (l8 : K.lookup f8 = some ⟨oc8, od8, .func (PySem.W.fnOf "_law_spans" "_law_spans" (defArgs s__law_spans) (defBody s__law_spans) (defScope s__law_spans) .none kV8 dc8 pm8 an8 cd8 ct8), sl8⟩) (c8 : PySem.W.codeIn K cd8 "_law_spans" = true) (k8 : PySem.W.keepIn K (.ref f8) = true)
    (a9 : PySem.W.nsIn K mainGlobals "_law_in" = some (some (.ref f9)))
    (l9 : K.lookup f9 = some ⟨oc9, od9, .func (PySem.W.fnOf "_law_in" "_law_in" (defArgs s__law_in) (defBody s__law_in) (defScope s__law_in) .none kV9 dc9 pm9 an9 cd9 ct9), sl9⟩) (c9 : PySem.W.codeIn K cd9 "_law_in" = true) (k9 : PySem.W.keepIn K (.ref f9) = true)
    (a10 : PySem.W.nsIn K mainGlobals "_law_points" = some (some (.ref f10)))
    (l10 : K.lookup f10 = some ⟨oc10, od10, .func (PySem.W.fnOf "_law_points" "_law_points" (defArgs s__law_points) (defBody s__law_points) (defScope s__law_points) .none kV10 dc10 pm10 an10 cd10 ct10), sl10⟩) (c10 : PySem.W.codeIn K cd10 "_law_points" = true) (k10 : PySem.W.keepIn K (.ref f10) = true)
    (a11 : PySem.W.nsIn K mainGlobals "_law_made" = some (some (.ref f11)))
    (l11 : K.lookup f11 = some ⟨oc11, od11, .func (PySem.W.fnOf "_law_made" "_law_made" (defArgs s__law_made) (defBody s__law_made) (defScope s__law_made) .none kV11 dc11 pm11 an11 cd11 ct11), sl11⟩) (c11 : PySem.W.codeIn K cd11 "_law_made" = true) (k11 : PySem.W.keepIn K (.ref f11) = true)
    (a12 : PySem.W.nsIn K mainGlobals "_law_poured" = some (some (.ref f12)))
    (l12 : K.lookup f12 = some ⟨oc12, od12, .func (PySem.W.fnOf "_law_poured" "_law_poured" (defArgs s__law_poured) (defBody s__law_poured) (defScope s__law_poured) .none kV12 dc12 pm12 an12 cd12 ct12), sl12⟩) (c12 : PySem.W.codeIn K cd12 "_law_poured" = true) (k12 : PySem.W.keepIn K (.ref f12) = true)
    (a13 : PySem.W.nsIn K mainGlobals "_law_numbers" = some (some (.ref f13)))
    (l13 : K.lookup f13 = some ⟨oc13, od13, .func (PySem.W.fnOf "_law_numbers" "_law_numbers" (defArgs s__law_numbers) (defBody s__law_numbers) (defScope s__law_numbers) .none kV13 dc13 pm13 an13 cd13 ct13), sl13⟩) (c13 : PySem.W.codeIn K cd13 "_law_numbers" = true) (k13 : PySem.W.keepIn K (.ref f13) = true)
    (a14 : PySem.W.nsIn K mainGlobals "_law_of_numbers" = some (some (.ref f14)))
    (l14 : K.lookup f14 = some ⟨oc14, od14, .func (PySem.W.fnOf "_law_of_numbers" "_law_of_numbers" (defArgs s__law_of_numbers) (defBody s__law_of_numbers) (defScope s__law_of_numbers) .none kV14 dc14 pm14 an14 cd14 ct14), sl14⟩) (c14 : PySem.W.codeIn K cd14 "_law_of_numbers" = true) (k14 : PySem.W.keepIn K (.ref f14) = true)
    (a15 : PySem.W.nsIn K mainGlobals "_law_pair" = some (some (.ref f15)))
    (l15 : K.lookup f15 = some ⟨oc15, od15, .func (PySem.W.fnOf "_law_pair" "_law_pair" (defArgs s__law_pair) (defBody s__law_pair) (defScope s__law_pair) .none kV15 dc15 pm15 an15 cd15 ct15), sl15⟩) (c15 : PySem.W.codeIn K cd15 "_law_pair" = true) (k15 : PySem.W.keepIn K (.ref f15) = true)
    (a16 : PySem.W.nsIn K mainGlobals "_law_due" = some (some (.ref f16)))
    (l16 : K.lookup f16 = some ⟨oc16, od16, .func (PySem.W.fnOf "_law_due" "_law_due" (defArgs s__law_due) (defBody s__law_due) (defScope s__law_due) .none kV16 dc16 pm16 an16 cd16 ct16), sl16⟩) (c16 : PySem.W.codeIn K cd16 "_law_due" = true) (k16 : PySem.W.keepIn K (.ref f16) = true)
    (a17 : PySem.W.nsIn K mainGlobals "_law_right" = some (some (.ref f17)))
    (l17 : K.lookup f17 = some ⟨oc17, od17, .func (PySem.W.fnOf "_law_right" "_law_right" (defArgs s__law_right) (defBody s__law_right) (defScope s__law_right) .none kV17 dc17 pm17 an17 cd17 ct17), sl17⟩) (c17 : PySem.W.codeIn K cd17 "_law_right" = true) (k17 : PySem.W.keepIn K (.ref f17) = true)
    (a18 : PySem.W.nsIn K mainGlobals "law" = some (some (.ref f18)))
    (l18 : K.lookup f18 = some ⟨oc18, od18, .func (PySem.W.fnOf "law" "law" (defArgs s_law) (defBody s_law) (defScope s_law) .none kV18 dc18 pm18 an18 cd18 ct18), sl18⟩) (c18 : PySem.W.codeIn K cd18 "law" = true) (k18 : PySem.W.keepIn K (.ref f18) = true)
    (z_sorted : PySem.W.nsIn K mainGlobals "sorted" = some none) (z_max : PySem.W.nsIn K mainGlobals "max" = some none) (z_tuple : PySem.W.nsIn K mainGlobals "tuple" = some none) (z_len : PySem.W.nsIn K mainGlobals "len" = some none) (z_min : PySem.W.nsIn K mainGlobals "min" = some none) (z_abs : PySem.W.nsIn K mainGlobals "abs" = some none) (z_int : PySem.W.nsIn K mainGlobals "int" = some none) (z_range : PySem.W.nsIn K mainGlobals "range" = some none) (z_any : PySem.W.nsIn K mainGlobals "any" = some none) (z_set : PySem.W.nsIn K mainGlobals "set" = some none) (z_list : PySem.W.nsIn K mainGlobals "list" = some none) (z_repr : PySem.W.nsIn K mainGlobals "repr" = some none)
     (hcd : cd16 = .ref cA) (hnm : TabN.nm PA = some "_law_due.<locals>.<lambda>") :
    ∃ fd : FuncData, (∀ (s : Shared) (v : Value), BindsTo s fd ⟨[v], []⟩ [("_law_script", v)]) ∧ ∀ base : Heap, K.In base → base.Ns mainGlobals mg → LamX.TabB base mg cA PA → FnG l.prog w K mg base CX0 6 fa fd ["_law_script"] (spOf K 1 C_law) := by
  have e := hfa.symm.trans (PySem.W.mg_of X G a18)
  cases e
  have m_sorted := PySem.W.mg_none_of X G z_sorted
  have m_max := PySem.W.mg_none_of X G z_max
  have m_tuple := PySem.W.mg_none_of X G z_tuple
  have m_len := PySem.W.mg_none_of X G z_len
  have m_min := PySem.W.mg_none_of X G z_min
  have m_abs := PySem.W.mg_none_of X G z_abs
  have m_int := PySem.W.mg_none_of X G z_int
  have m_range := PySem.W.mg_none_of X G z_range
  have m_any := PySem.W.mg_none_of X G z_any
  have m_set := PySem.W.mg_none_of X G z_set
  have m_list := PySem.W.mg_none_of X G z_list
  have m_repr := PySem.W.mg_none_of X G z_repr
  have F0 := fun_mk (st := s_united) l0 c0 k0
  have F1 := fun_mk (st := s_both) l1 c1 k1
  have F2 := fun_mk (st := s_either) l2 c2 k2
  have F3 := fun_mk (st := s_gaps) l3 c3 k3
  have F4 := fun_mk (st := s_without) l4 c4 k4
  have F5 := fun_mk (st := s__law_pot) l5 c5 k5
  have F6 := fun_mk (st := s__law_draw) l6 c6 k6
  have F7 := fun_mk (st := s__law_any) l7 c7 k7
  have F8 := fun_mk (st := s__law_spans) l8 c8 k8
  have F9 := fun_mk (st := s__law_in) l9 c9 k9
  have F10 := fun_mk (st := s__law_points) l10 c10 k10
  have F11 := fun_mk (st := s__law_made) l11 c11 k11
  have F12 := fun_mk (st := s__law_poured) l12 c12 k12
  have F13 := fun_mk (st := s__law_numbers) l13 c13 k13
  have F14 := fun_mk (st := s__law_of_numbers) l14 c14 k14
  have F15 := fun_mk (st := s__law_pair) l15 c15 k15
  have F16 := fun_mk (st := s__law_due) l16 c16 k16
  have F17 := fun_mk (st := s__law_right) l17 c17 k17
  have F18 := fun_mk (st := s_law) l18 c18 k18
  refine ⟨PySem.W.fnOf "law" "law" (defArgs s_law) (defBody s_law) (defScope s_law) .none kV18 dc18 pm18 an18 cd18 ct18, fun s v => .of_eq rfl, fun base _ _ hTB => ?_⟩
  have G0 := fn_united (P := l.prog) (w := w) (mg := mg) (base := base) F0 m_sorted m_max m_tuple
  have c_united : Callee l.prog w K mg base 1 "united" ["pairs"] C_united := ⟨_, _, G0, PySem.W.mg_of X G a0, F0.kp, F0.binds fun _ _ _ _ _ _ us hl => match us, hl with | [_], _ => rfl⟩
  have G1 := fn_both (P := l.prog) (w := w) (mg := mg) (base := base) F1 m_len m_max m_min m_tuple
  have k_both_1_0 : CalleeK l.prog w K mg base 1 "both" ["one", "other"] ["other", "one"] [1, 0] C_both := ⟨_, _, G1, PySem.W.mg_of X G a1, F1.kp, ⟨fun s ws hK hl => match ws, hl with | [_, _], _ => .of_eq rfl, by decide⟩⟩
  have c_both : Callee l.prog w K mg base 1 "both" ["one", "other"] C_both := ⟨_, _, G1, PySem.W.mg_of X G a1, F1.kp, F1.binds fun _ _ _ _ _ _ us hl => match us, hl with | [_, _], _ => rfl⟩
  have G5 := fn__law_pot (P := l.prog) (w := w) (mg := mg) (base := base) F5 m_len m_abs m_int
  have c__law_pot : Callee l.prog w K mg base 1 "_law_pot" ["_law_script", "_law_k"] C__law_pot := ⟨_, _, G5, PySem.W.mg_of X G a5, F5.kp, F5.binds fun _ _ _ _ _ _ us hl => match us, hl with | [_, _], _ => rfl⟩
  have G6 := fn__law_draw (P := l.prog) (w := w) (mg := mg) (base := base) F6 m_int
  have c__law_draw : Callee l.prog w K mg base 1 "_law_draw" ["_law_pot_here", "_law_many"] C__law_draw := ⟨_, _, G6, PySem.W.mg_of X G a6, F6.kp, F6.binds fun _ _ _ _ _ _ us hl => match us, hl with | [_, _], _ => rfl⟩
  have G9 := fn__law_in (P := l.prog) (w := w) (mg := mg) (base := base) F9 m_any
  have c__law_in : Callee l.prog w K mg base 1 "_law_in" ["_law_spans_here", "_law_number"] C__law_in := ⟨_, _, G9, PySem.W.mg_of X G a9, F9.kp, F9.binds fun _ _ _ _ _ _ us hl => match us, hl with | [_, _], _ => rfl⟩
  have G10 := fn__law_points (P := l.prog) (w := w) (mg := mg) (base := base) F10 m_sorted m_set
  have c__law_points : Callee l.prog w K mg base 1 "_law_points" ["_law_some"] C__law_points := ⟨_, _, G10, PySem.W.mg_of X G a10, F10.kp, F10.binds fun _ _ _ _ _ _ us hl => match us, hl with | [_], _ => rfl⟩
  have G12 := fn__law_poured (P := l.prog) (w := w) (mg := mg) (base := base) F12 m_sorted m_max m_tuple
  have c__law_poured : Callee l.prog w K mg base 1 "_law_poured" ["_law_pairs"] C__law_poured := ⟨_, _, G12, PySem.W.mg_of X G a12, F12.kp, F12.binds fun _ _ _ _ _ _ us hl => match us, hl with | [_], _ => rfl⟩
  have G13 := fn__law_numbers (P := l.prog) (w := w) (mg := mg) (base := base) F13 m_list m_range
  have c__law_numbers : Callee l.prog w K mg base 1 "_law_numbers" ["_law_spans_here"] C__law_numbers := ⟨_, _, G13, PySem.W.mg_of X G a13, F13.kp, F13.binds fun _ _ _ _ _ _ us hl => match us, hl with | [_], _ => rfl⟩
  have G2 := fn_either (P := l.prog) (w := w) (mg := mg) (base := base) F2 c_united
  have k_either_1_0 : CalleeK l.prog w K mg base 2 "either" ["one", "other"] ["other", "one"] [1, 0] C_either := ⟨_, _, G2, PySem.W.mg_of X G a2, F2.kp, ⟨fun s ws hK hl => match ws, hl with | [_, _], _ => .of_eq rfl, by decide⟩⟩
  have c_either : Callee l.prog w K mg base 2 "either" ["one", "other"] C_either := ⟨_, _, G2, PySem.W.mg_of X G a2, F2.kp, F2.binds fun _ _ _ _ _ _ us hl => match us, hl with | [_, _], _ => rfl⟩
  have G3 := fn_gaps (P := l.prog) (w := w) (mg := mg) (base := base) F3 m_max c_both c_united
  have c_gaps : Callee l.prog w K mg base 2 "gaps" ["ranges", "low", "high"] C_gaps := ⟨_, _, G3, PySem.W.mg_of X G a3, F3.kp, F3.binds fun _ _ _ _ _ _ us hl => match us, hl with | [_, _, _], _ => rfl⟩
  have G7 := fn__law_any (P := l.prog) (w := w) (mg := mg) (base := base) F7 m_len c__law_draw
  have c__law_any : Callee l.prog w K mg base 2 "_law_any" ["_law_pot_here", "_law_items"] C__law_any := ⟨_, _, G7, PySem.W.mg_of X G a7, F7.kp, F7.binds fun _ _ _ _ _ _ us hl => match us, hl with | [_, _], _ => rfl⟩
  have G14 := fn__law_of_numbers (P := l.prog) (w := w) (mg := mg) (base := base) F14 c__law_poured
  have c__law_of_numbers : Callee l.prog w K mg base 2 "_law_of_numbers" ["_law_numbers_here"] C__law_of_numbers := ⟨_, _, G14, PySem.W.mg_of X G a14, F14.kp, F14.binds fun _ _ _ _ _ _ us hl => match us, hl with | [_], _ => rfl⟩
  have G4 := fn_without (P := l.prog) (w := w) (mg := mg) (base := base) F4 c_both c_gaps
  have k_without_1_0 : CalleeK l.prog w K mg base 3 "without" ["one", "other"] ["other", "one"] [1, 0] C_without := ⟨_, _, G4, PySem.W.mg_of X G a4, F4.kp, ⟨fun s ws hK hl => match ws, hl with | [_, _], _ => .of_eq rfl, by decide⟩⟩
  have c_without : Callee l.prog w K mg base 3 "without" ["one", "other"] C_without := ⟨_, _, G4, PySem.W.mg_of X G a4, F4.kp, F4.binds fun _ _ _ _ _ _ us hl => match us, hl with | [_, _], _ => rfl⟩
  have G8 := fn__law_spans (P := l.prog) (w := w) (mg := mg) (base := base) F8 m_range m_tuple c__law_draw c__law_any
  have c__law_spans : Callee l.prog w K mg base 3 "_law_spans" ["_law_pot_here", "_law_most", "_law_low", "_law_high"] C__law_spans := ⟨_, _, G8, PySem.W.mg_of X G a8, F8.kp, F8.binds fun _ _ _ _ _ _ us hl => match us, hl with | [_, _, _, _], _ => rfl⟩
  have G15 := fn__law_pair (P := l.prog) (w := w) (mg := mg) (base := base) F15 c__law_any c__law_spans
  have c__law_pair : Callee l.prog w K mg base 4 "_law_pair" ["_law_pot_here"] C__law_pair := ⟨_, _, G15, PySem.W.mg_of X G a15, F15.kp, F15.binds fun _ _ _ _ _ _ us hl => match us, hl with | [_], _ => rfl⟩
  have l__law_made := gl__law_made (P := l.prog) (w := w) (mg := mg) (base := base) F11 (PySem.W.mg_of X G a11) F11.kp (F11.binds fun _ _ _ _ _ _ us hl => match us, hl with | [_, _], _ => rfl) m_len m_range m_tuple
  have G16 := fn__law_due (P := l.prog) (w := w) (mg := mg) (base := base) F16 hTB hcd hnm c__law_numbers c__law_of_numbers c__law_points c__law_in l__law_made
  have c__law_due : Callee l.prog w K mg base 4 "_law_due" ["_law_first", "_law_second", "_law_is_small"] C__law_due := ⟨_, _, G16, PySem.W.mg_of X G a16, F16.kp, F16.binds fun _ _ _ _ _ _ us hl => match us, hl with | [_, _, _], _ => rfl⟩
  have G17 := fn__law_right (P := l.prog) (w := w) (mg := mg) (base := base) F17 m_range m_repr c__law_pair c__law_due c_both c_either c_without k_both_1_0 k_either_1_0 k_without_1_0
  have c__law_right : Callee l.prog w K mg base 5 "_law_right" ["_law_pot_here"] C__law_right := ⟨_, _, G17, PySem.W.mg_of X G a17, F17.kp, F17.binds fun _ _ _ _ _ _ us hl => match us, hl with | [_], _ => rfl⟩
  have G18 := fn_law (P := l.prog) (w := w) (mg := mg) (base := base) F18 m_len m_min m_max m_range c__law_right c__law_pot
  exact G18
set_option maxHeartbeats 0 in
theorem hall [TabN] {w : World} {K : PySem.W.Frag} {h : Heap} {mg : Str → Option Value} {fa PA : Addr} (X : K.In h) (G : h.Ns mainGlobals mg) (hfa : mg "law" = some (.ref fa)) (hc0 : Hd.seenX fs fn xsL K = Hd.dueX fn xsL) (hcb : Hd.cdB K (mkA K) = true) (hnm : TabN.nm PA = some "_law_due.<locals>.<lambda>") :
    ∃ fd : FuncData, (∀ (s : Shared) (v : Value), BindsTo s fd ⟨[v], []⟩ [("_law_script", v)]) ∧ ∀ base : Heap, K.In base → base.Ns mainGlobals mg → LamX.TabB base mg (Hd.cdA K (mkA K)) PA → FnG PySem.Challenge.rw_piecefacts_k02_two_range_sets.prog w K mg base CX0 6 fa fd ["_law_script"] (spOf K 1 C_law) := by
  obtain ⟨c, hcx⟩ := Hd.seenX_ok hc0
  obtain ⟨oc0, od0, sl0, kV0, dc0, pm0, an0, cd0, ct0, l0, c0, k0⟩ := Hd.fdef (d := d0) c 0
  obtain ⟨oc1, od1, sl1, kV1, dc1, pm1, an1, cd1, ct1, l1, c1, k1⟩ := Hd.fdef (d := d1) c 1
  obtain ⟨oc2, od2, sl2, kV2, dc2, pm2, an2, cd2, ct2, l2, c2, k2⟩ := Hd.fdef (d := d2) c 2
  obtain ⟨oc3, od3, sl3, kV3, dc3, pm3, an3, cd3, ct3, l3, c3, k3⟩ := Hd.fdef (d := d3) c 3
  obtain ⟨oc4, od4, sl4, kV4, dc4, pm4, an4, cd4, ct4, l4, c4, k4⟩ := Hd.fdef (d := d4) c 4
  obtain ⟨oc5, od5, sl5, kV5, dc5, pm5, an5, cd5, ct5, l5, c5, k5⟩ := Hd.fdef (d := d5) c 5
  obtain ⟨oc6, od6, sl6, kV6, dc6, pm6, an6, cd6, ct6, l6, c6, k6⟩ := Hd.fdef (d := d6) c 6
  obtain ⟨oc7, od7, sl7, kV7, dc7, pm7, an7, cd7, ct7, l7, c7, k7⟩ := Hd.fdef (d := d7) c 7
  obtain ⟨oc8, od8, sl8, kV8, dc8, pm8, an8, cd8, ct8, l8, c8, k8⟩ := Hd.fdef (d := d8) c 8
  obtain ⟨oc9, od9, sl9, kV9, dc9, pm9, an9, cd9, ct9, l9, c9, k9⟩ := Hd.fdef (d := d9) c 9
  obtain ⟨oc10, od10, sl10, kV10, dc10, pm10, an10, cd10, ct10, l10, c10, k10⟩ := Hd.fdef (d := d10) c 10
  obtain ⟨oc11, od11, sl11, kV11, dc11, pm11, an11, cd11, ct11, l11, c11, k11⟩ := Hd.fdef (d := d11) c 11
  obtain ⟨oc12, od12, sl12, kV12, dc12, pm12, an12, cd12, ct12, l12, c12, k12⟩ := Hd.fdef (d := d12) c 12
  obtain ⟨oc13, od13, sl13, kV13, dc13, pm13, an13, cd13, ct13, l13, c13, k13⟩ := Hd.fdef (d := d13) c 13
  obtain ⟨oc14, od14, sl14, kV14, dc14, pm14, an14, cd14, ct14, l14, c14, k14⟩ := Hd.fdef (d := d14) c 14
  obtain ⟨oc15, od15, sl15, kV15, dc15, pm15, an15, cd15, ct15, l15, c15, k15⟩ := Hd.fdef (d := d15) c 15
  obtain ⟨oc16, od16, sl16, kV16, dc16, pm16, an16, cd16, ct16, l16, c16, k16⟩ := Hd.fdef (d := d16) c 16
  obtain ⟨oc17, od17, sl17, kV17, dc17, pm17, an17, cd17, ct17, l17, c17, k17⟩ := Hd.fdef (d := d17) c 17
  obtain ⟨oc18, od18, sl18, kV18, dc18, pm18, an18, cd18, ct18, l18, c18, k18⟩ := Hd.fdef (d := d18) c 18
  exact all_mk (l := PySem.Challenge.rw_piecefacts_k02_two_range_sets) X G hfa (He.eqO_ok (show Hd.glo "united" K = true from Hd.fact c 0)) l0 c0 k0 (He.eqO_ok (show Hd.glo "both" K = true from Hd.fact c 1)) l1 c1 k1 (He.eqO_ok (show Hd.glo "either" K = true from Hd.fact c 2)) l2 c2 k2 (He.eqO_ok (show Hd.glo "gaps" K = true from Hd.fact c 3)) l3 c3 k3 (He.eqO_ok (show Hd.glo "without" K = true from Hd.fact c 4)) l4 c4 k4 (He.eqO_ok (show Hd.glo "_law_pot" K = true from Hd.fact c 5)) l5 c5 k5 (He.eqO_ok (show Hd.glo "_law_draw" K = true from Hd.fact c 6)) l6 c6 k6 (He.eqO_ok (show Hd.glo "_law_any" K = true from Hd.fact c 7)) l7 c7 k7 (He.eqO_ok (show Hd.glo "_law_spans" K = true from Hd.fact c 8)) l8 c8 k8 (He.eqO_ok (show Hd.glo "_law_in" K = true from Hd.fact c 9)) l9 c9 k9 (He.eqO_ok (show Hd.glo "_law_points" K = true from Hd.fact c 10)) l10 c10 k10 (He.eqO_ok (show Hd.glo "_law_made" K = true from Hd.fact c 11)) l11 c11 k11 (He.eqO_ok (show Hd.glo "_law_poured" K = true from Hd.fact c 12)) l12 c12 k12 (He.eqO_ok (show Hd.glo "_law_numbers" K = true from Hd.fact c 13)) l13 c13 k13 (He.eqO_ok (show Hd.glo "_law_of_numbers" K = true from Hd.fact c 14)) l14 c14 k14 (He.eqO_ok (show Hd.glo "_law_pair" K = true from Hd.fact c 15)) l15 c15 k15 (He.eqO_ok (show Hd.glo "_law_due" K = true from Hd.fact c 16)) l16 c16 k16 (He.eqO_ok (show Hd.glo "_law_right" K = true from Hd.fact c 17)) l17 c17 k17 (He.eqO_ok (show Hd.glo "law" K = true from Hd.fact c 18)) l18 c18 k18 (He.eqO_ok (show Hd.fre "sorted" K = true from Hd.fact c 19)) (He.eqO_ok (show Hd.fre "max" K = true from Hd.fact c 20)) (He.eqO_ok (show Hd.fre "tuple" K = true from Hd.fact c 21)) (He.eqO_ok (show Hd.fre "len" K = true from Hd.fact c 22)) (He.eqO_ok (show Hd.fre "min" K = true from Hd.fact c 23)) (He.eqO_ok (show Hd.fre "abs" K = true from Hd.fact c 24)) (He.eqO_ok (show Hd.fre "int" K = true from Hd.fact c 25)) (He.eqO_ok (show Hd.fre "range" K = true from Hd.fact c 26)) (He.eqO_ok (show Hd.fre "any" K = true from Hd.fact c 27)) (He.eqO_ok (show Hd.fre "set" K = true from Hd.fact c 28)) (He.eqO_ok (show Hd.fre "list" K = true from Hd.fact c 29)) (He.eqO_ok (show Hd.fre "repr" K = true from Hd.fact c 30)) (Hd.cdB_ok hcb l16) hnm
end Lw
open PySem PySem.W PyProof.Rows
set_option maxHeartbeats 0 in
theorem PySem.Challenge.cw_piecefacts_k02_two_range_sets_holds : PySem.Challenge.rw_piecefacts_k02_two_range_sets.Holds := by
  refine Lw.headP.2 ?_
  refine Dl.walk_gL (l := PySem.Challenge.rw_piecefacts_k02_two_range_sets) (n := 63) (k := 6) (x := "_law_script") (C := Lw.C_law) "_law_due.<locals>.<lambda>" rfl (by decide) (by kernel_rfl) ⟨rfl, by decide, by decide⟩ ?F Lw.law_true
  intro w mg fa h Y G hmg0
  obtain ⟨K, P, KX, c, c1, c2, c3, c4⟩ := Y
  have hmg : mg ("law" : PySem.Str) = some (.ref fa) := by
    have e : (HandSHeadRun.topDef (PySem.W.OpenLaw.row PySem.Challenge.rw_piecefacts_k02_two_range_sets).prog 20).name = ("law" : PySem.Str) := by kernel_rfl
    rw [← e]
    exact hmg0
  letI : Dl.TabN := Dl.tabAt P "_law_due.<locals>.<lambda>"
  obtain ⟨fd, hb, hF⟩ := Lw.hall (w := w) (PA := P) KX G hmg c c1 (Dl.tabAt_nm P "_law_due.<locals>.<lambda>")
  exact ⟨K, fd, _, P, KX, c4, c3, Dl.Hd.codO_ok KX c2, hb, hF⟩
