import PyProof.Rows.All
import Wide.All
import OpenK.AllK
import Wide.FinOn
import PyProof.EqAt
import PyProof.EqKinds
import PyProof.TupleCall
import HandS.ForMost
import HandS.ForExc
import HandS.Exc
import KE.DataEq
import HandS.Lambda
import HandS.Wide
import HandS.Style
import HandS.TupAny
import HandS.TupMul
import KE.DataCmp
import KE.DataFind
import KE.DataAny
import KE.DataMinMax
import KE.DataIsa
import HandS.IsInst
import HandS.ExcInit
import HandS.Iter
import HandS.Walk
import KE.GoesNew
import KE.GoesEnum
import KE.GoesMore
import HandS.Zip
import HandS.TryOnly
import HandS.Comp
import HandS.ExcOwn
import HandS.ExcIs
import HandS.Deep
import HandS.SetFor
import PyProof.SumAny
import HandS.Dict
import HandS.Words
import HandS.WordsExc
import HandS.EndTab
import KE.KNestM
import KE.SortData
import HandS.SortInts
import KE.KDflt
import HandS.Conv
import PyProof.ReprRoads
import PyProof.ReprBulk
import PyProof.Rows.RegStrFacts
import PySem.Challenge.RW_landoffice_k34_whole_hills_between
set_option Elab.async false
set_option linter.all false
set_option maxRecDepth 100000
set_option maxHeartbeats 4000000
set_option autoImplicit false
/-! PD: plain data over the hand layer: what a def reckons, told without a heap. -/
namespace PD
open PySem PySem.Spec PyProof.Rows L2
abbrev D := PyData
abbrev Forb := Addr → Prop
abbrev St := L2.St
/-- what is known of a thing that is no data: an error of a class, a def of the module -/
inductive OV where
  | unk | exc (c : Str) | fnv (x : Str)
def OV.prot : OV → Bool
  | .fnv _ => false
  | _ => true
/-- what a slot holds: data, a list (dict) of one's own, one that was handed in to be changed -/
inductive SV where
  | dat (d : D) | own (d : D) | par (d : D) | opq (o : OV)
abbrev Env := List (Option SV)
/-- what an expression gives: data, a new list (dict) nobody else holds, the list of a slot -/
inductive RV where
  | dat (d : D) | own (d : D) | bor (i : Nat) | thg (o : OV)
structure Exc where
  cls : Str
  args : List D
inductive Out (α : Type) where
  | ok (a : α) (ρ : Env) | exc (e : Exc) (ρ : Env) | no
abbrev ME := Env → Out RV
abbrev MEs := Env → Out (List RV)
abbrev MB := Env → Out Bool
/-- a def's end: what it gives, what has become of the lists that were handed in -/
inductive FO where
  | ok (r : SV) (outs : List D) | exc (e : Exc) | no
abbrev FS := List SV → FO
inductive SO where
  | next (ρ : Env) | ret (r : RV) (ρ : Env) | brk (ρ : Env) | cont (ρ : Env) | exc (e : Exc) (ρ : Env) | no
abbrev MS := Env → SO
def SV.get : SV → D
  | .dat d | .own d | .par d => d
  | .opq _ => .none
def SV.opaque : SV → Bool
  | .opq _ => true
  | _ => false
def SV.mut : SV → Bool
  | .dat _ => false
  | .opq _ => false
  | _ => true
def slotD (ρ : Env) (i : Nat) : Option D := match ρ[i]? with
  | some (some (.opq _)) => none
  | some (some sv) => some sv.get
  | _ => none
def RV.get (ρ : Env) : RV → Option D
  | .dat d | .own d => some d
  | .bor i => slotD ρ i
  | .thg _ => none

/-! ### data in the heap -/
def kD : Key → D
  | .inl i => .int i
  | .inr x => .str x
/-- the tables of code objects, by the names they bear -/
class Tab where
  T : List (Addr × Str)
mutual
inductive Rep (K : PySem.W.Frag) (F : Forb) (H : Hp) : V → D → Prop
  | non : Rep K F H .non .none
  | bl (b : Bool) : Rep K F H (.bl b) (.bool b)
  | int (i : Int) : Rep K F H (.int i) (.int i)
  | str (x : Str) : Rep K F H (.str x) (.str x)
  | lst {a : Addr} {xs : List V} {ds : List D} : ¬ F a → H a = some (.lst xs) → xs.length ≤ sizeLine → RepAll K F H xs ds → Rep K F H (.ref a) (.list ds)
  | lstF {a : Addr} {o : Obj} {xs : List V} {ds : List D} : ¬ F a → H a = some (.frz o (.lst xs)) → xs.length ≤ sizeLine → RepAll K F H xs ds → Rep K F H (.ref a) (.list ds)
  | tup {a : Addr} {xs : List V} {ds : List D} : ¬ F a → H a = some (.tup xs) → xs.length ≤ sizeLine → RepAll K F H xs ds → Rep K F H (.ref a) (.tuple ds)
  | tupK {a : Addr} {o : Obj} {its : Array Value} {n : Nat} {xs : List V} {ds : List D} : K.lookup a = some o → o.cls = .type "tuple" → o.data = .seq its n → its.size ≤ sizeLine → Vals xs its.toList → RepAll K F H xs ds → Rep K F H (.ref a) (.tuple ds)
  | dct {a : Addr} {kvs : List (Key × V)} {ds : List (D × D)} : ¬ F a → H a = some (.dK kvs) → RepKV K F H kvs ds → Rep K F H (.ref a) (.dict ds)
inductive RepAll (K : PySem.W.Frag) (F : Forb) (H : Hp) : List V → List D → Prop
  | nil : RepAll K F H [] []
  | cons {v : V} {vs : List V} {d : D} {ds : List D} : Rep K F H v d → RepAll K F H vs ds → RepAll K F H (v :: vs) (d :: ds)
inductive RepKV (K : PySem.W.Frag) (F : Forb) (H : Hp) : List (Key × V) → List (D × D) → Prop
  | nil : RepKV K F H [] []
  | cons {k : Key} {v : V} {vs : List (Key × V)} {d : D} {ds : List (D × D)} : Rep K F H v d → RepKV K F H vs ds → RepKV K F H ((k, v) :: vs) ((kD k, d) :: ds)
end
theorem nt_lst {xs : List V} : ∀ ps, HO.lst xs ≠ .tbl ps := fun _ e => HO.noConfusion e
theorem nt_tup {xs : List V} : ∀ ps, HO.tup xs ≠ .tbl ps := fun _ e => HO.noConfusion e
theorem nt_frz {o : Obj} {u : HO} : ∀ ps, HO.frz o u ≠ .tbl ps := fun _ e => HO.noConfusion e
theorem nt_dK {kvs : List (Key × V)} : ∀ ps, HO.dK kvs ≠ .tbl ps := fun _ e => HO.noConfusion e
section
variable {K : PySem.W.Frag} {F F' : Forb} {H H' : Hp} (hn : ∀ a u, ¬ F a → H a = some u → ¬ F' a) (rd : ∀ a u, ¬ F a → (∀ ps, u ≠ .tbl ps) → H a = some u → H' a = some u)
include hn rd
mutual
theorem Rep.car0 : ∀ {v : V} {d : D}, Rep K F H v d → Rep K F' H' v d
  | _, _, .non => .non
  | _, _, .bl b => .bl b
  | _, _, .int i => .int i
  | _, _, .str x => .str x
  | _, _, .lst n r z t => .lst (hn _ _ n r) (rd _ _ n nt_lst r) z (RepAll.car0 t)
  | _, _, .lstF n r z t => .lstF (hn _ _ n r) (rd _ _ n nt_frz r) z (RepAll.car0 t)
  | _, _, .tup n r z t => .tup (hn _ _ n r) (rd _ _ n nt_tup r) z (RepAll.car0 t)
  | _, _, .dct n r t => .dct (hn _ _ n r) (rd _ _ n nt_dK r) (RepKV.car0 t)
  | _, _, .tupK a b e f g t => .tupK a b e f g (RepAll.car0 t)
theorem RepAll.car0 : ∀ {vs : List V} {ds : List D}, RepAll K F H vs ds → RepAll K F' H' vs ds
  | _, _, .nil => .nil
  | _, _, .cons r t => .cons (Rep.car0 r) (RepAll.car0 t)
theorem RepKV.car0 : ∀ {vs : List (Key × V)} {ds : List (D × D)}, RepKV K F H vs ds → RepKV K F' H' vs ds
  | _, _, .nil => .nil
  | _, _, .cons r t => .cons (Rep.car0 r) (RepKV.car0 t)
end
end
section
variable {K : PySem.W.Frag} {F F' : Forb} {H H' : Hp}
theorem RepAll.length : ∀ {vs : List V} {ds : List D}, RepAll K F H vs ds → vs.length = ds.length
  | _, _, .nil => rfl
  | _, _, .cons _ t => by simp [t.length]
theorem nn {α : Type} {x : Option α} {o : α} (r : x = some o) : x ≠ none := by
  rw [r]; intro z; cases z
mutual
theorem Rep.dp : ∀ {v : V} {d : D}, d.plain = true → Rep K F H v d → Dp K H v d
  | _, _, _, .non => .non
  | _, _, _, .bl b => .bl b
  | _, _, _, .int i => .int i
  | _, _, _, .str x => .str x
  | _, _, p, .lst n r _ t => .lst (.inl (.inl r)) (RepAll.dp (by simpa only [PyData.plain] using p) t)
  | _, _, p, .lstF n r _ t => .lst (.inl (.inr ⟨_, r⟩)) (RepAll.dp (by simpa only [PyData.plain] using p) t)
  | _, _, p, .tup n r _ t => .tup (.inl (.inl r)) (RepAll.dp (by simpa only [PyData.plain] using p) t)
  | _, _, p, .tupK a b e f g t => .tup (.inr ⟨_, _, _, a, b, e, f, g⟩) (RepAll.dp (by simpa only [PyData.plain] using p) t)
  | _, _, p, .dct _ _ _ => nomatch p
theorem RepAll.dp : ∀ {vs : List V} {ds : List D}, PyData.plainAll ds = true → RepAll K F H vs ds → DpAll K H vs ds
  | _, _, _, .nil => .nil
  | _, _, p, .cons r t => by
    rw [PyData.plainAll, Bool.and_eq_true] at p
    exact .cons (Rep.dp p.1 r) (RepAll.dp p.2 t)
end
theorem RepAll.get : ∀ {vs : List V} {ds : List D} {i : Nat} {d : D}, RepAll K F H vs ds → ds[i]? = some d → ∃ v, vs[i]? = some v ∧ Rep K F H v d
  | _, _, _, _, .nil, e => by simp at e
  | _, _, 0, _, .cons r _, e => by simp at e; subst e; exact ⟨_, rfl, r⟩
  | _, _, i + 1, _, .cons _ t, e => by
    obtain ⟨v, h1, h2⟩ := RepAll.get (i := i) t (by simpa using e)
    exact ⟨v, by simpa using h1, h2⟩
theorem RepAll.at : ∀ {vs : List V} {ds : List D} {i : Nat} {v : V}, RepAll K F H vs ds → vs[i]? = some v → ∃ d, ds[i]? = some d ∧ Rep K F H v d
  | _, _, _, _, .nil, e => by simp at e
  | _, _, 0, _, .cons r _, e => by simp at e; subst e; exact ⟨_, rfl, r⟩
  | _, _, i + 1, _, .cons _ t, e => by
    obtain ⟨v, h1, h2⟩ := RepAll.at (i := i) t (by simpa using e)
    exact ⟨v, by simpa using h1, h2⟩
theorem RepAll.append : ∀ {vs ws : List V} {ds es : List D}, RepAll K F H vs ds → RepAll K F H ws es → RepAll K F H (vs ++ ws) (ds ++ es)
  | _, _, _, _, .nil, s => s
  | _, _, _, _, .cons r t, s => .cons r (RepAll.append t s)
theorem RepAll.take : ∀ {vs : List V} {ds : List D} (n : Nat), RepAll K F H vs ds → RepAll K F H (vs.take n) (ds.take n)
  | _, _, 0, _ => by simp; exact .nil
  | _, _, n + 1, .nil => by simp; exact .nil
  | _, _, n + 1, .cons r t => .cons r (RepAll.take n t)
theorem RepAll.drop : ∀ {vs : List V} {ds : List D} (n : Nat), RepAll K F H vs ds → RepAll K F H (vs.drop n) (ds.drop n)
  | _, _, 0, r => r
  | _, _, n + 1, .nil => by simp; exact .nil
  | _, _, n + 1, .cons _ t => RepAll.drop n t
theorem RepAll.set {v : V} {d : D} (r : Rep K F H v d) : ∀ {vs : List V} {ds : List D} (i : Nat), RepAll K F H vs ds → RepAll K F H (vs.set i v) (ds.set i d)
  | _, _, _, .nil => .nil
  | _, _, 0, .cons _ t => .cons r t
  | _, _, i + 1, .cons q t => .cons q (RepAll.set r i t)
theorem RepAll.reverse : ∀ {vs : List V} {ds : List D}, RepAll K F H vs ds → RepAll K F H vs.reverse ds.reverse
  | _, _, .nil => .nil
  | _, _, .cons r t => by simp only [List.reverse_cons]; exact (RepAll.reverse t).append (.cons r .nil)
theorem RepAll.erase : ∀ {vs : List V} {ds : List D} (i : Nat), RepAll K F H vs ds → RepAll K F H (vs.eraseIdx i) (ds.eraseIdx i)
  | _, _, _, .nil => .nil
  | _, _, 0, .cons _ t => t
  | _, _, i + 1, .cons q t => .cons q (RepAll.erase i t)
/-- the items by the data, each at the address where it stands -/
theorem RepAll.ints : ∀ {vs : List V} {ns : List Int}, RepAll K F H vs (ns.map PyData.int) → vs = ns.map V.int
  | [], [], _ => rfl
  | [], _ :: _, h => by cases h
  | _ :: _, [], h => by cases h
  | v :: vs, n :: ns, h => by
    cases h with
    | cons r t => cases r; rw [RepAll.ints t]; rfl
theorem RepAll.bools : ∀ {vs : List V} {ns : List Bool}, RepAll K F H vs (ns.map PyData.bool) → vs = ns.map V.bl
  | [], [], _ => rfl
  | [], _ :: _, h => by cases h
  | _ :: _, [], h => by cases h
  | v :: vs, n :: ns, h => by
    cases h with
    | cons r t => cases r; rw [RepAll.bools t]; rfl
variable [Tab]
/-- carried over a change of what is not read -/
structure Car [Tab] (F F' : Forb) (H H' : Hp) : Prop where
  rd : ∀ a u, ¬ F a → (∀ ps, u ≠ .tbl ps) → H a = some u → H' a = some u
  fr : ∀ a, F' a → F a ∨ H a = none
  tb : LamX.Tabs Tab.T H → LamX.Tabs Tab.T H'
theorem Car.not (c : Car F F' H H') {a : Addr} {u : HO} (n : ¬ F a) (r : H a = some u) : ¬ F' a := fun f => by
  rcases c.fr a f with z | z
  · exact n z
  · exact nn r z
theorem Rep.car (c : Car F F' H H') {v : V} {d : D} (r : Rep K F H v d) : Rep K F' H' v d := Rep.car0 (fun _ _ n r => c.not n r) c.rd r
theorem RepAll.car (c : Car F F' H H') {vs : List V} {ds : List D} (r : RepAll K F H vs ds) : RepAll K F' H' vs ds := RepAll.car0 (fun _ _ n r => c.not n r) c.rd r
theorem RepKV.car (c : Car F F' H H') {vs : List (Key × V)} {ds : List (D × D)} (r : RepKV K F H vs ds) : RepKV K F' H' vs ds := RepKV.car0 (fun _ _ n r => c.not n r) c.rd r
theorem Car.refl : Car F F H H := ⟨fun _ _ _ _ r => r, fun _ f => .inl f, id⟩
theorem Car.sub (h : ∀ a, F' a → F a) : Car F F' H H := ⟨fun _ _ _ _ r => r, fun a f => .inl (h a f), id⟩
end

/-! ### states -/
/-- a list (later: a dict) of one's own at a -/
def Own (K : PySem.W.Frag) (F : Forb) (H : Hp) (a : Addr) : D → Prop
  | .list ds => ∃ xs, H a = some (.lst xs) ∧ xs.length ≤ sizeLine ∧ RepAll K F H xs ds
  | _ => False
/-- a thing, by what is known of it -/
def ObjR (K : PySem.W.Frag) (F : Forb) (H : Hp) (v : V) : OV → Prop
  | .unk => True
  | .exc c => ∃ (a C : Addr) (oe : Obj), v = .ref a ∧ ¬ F a ∧ H a = some (.ext fun h => h.get? a = some oe) ∧ Zc (.ref C) none oe ∧ (∃ vs, oe.data = .fields vs) ∧ PySem.W.nsIn K mainGlobals c = some (some (.ref C))
  | .fnv x => ∃ f, v = .ref f ∧ PySem.W.nsIn K mainGlobals x = some (some (.ref f))
def SlotOk (K : PySem.W.Frag) (F : Forb) (H : Hp) (v : V) : SV → Prop
  | .dat d => Rep K F H v d
  | .own d | .par d => ∃ a, v = .ref a ∧ F a ∧ Own K F H a d
  | .opq o => ObjR K F H v o
/-- slot i holds a list of one's own, at a -/
def OwnAt (ρ : Env) (σ : St) (i : Nat) (a : Addr) : Prop := ∃ sv, ρ[i]? = some (some sv) ∧ sv.mut = true ∧ σ[i]? = some (some (.ref a))
/-- where a body runs: the heap at its entry, what was forbidden then, what it leaves as it stands, the lists handed in -/
structure Zone where
  H : Hp
  F : Forb
  M : Forb
  P : List (Nat × Addr)
  O : List (Nat × V) := []
/-- what may be one's own -/
def Mb : HO → Prop
  | .lst _ => True
  | .dK _ => True
  | _ => False
/-- what is known of the zone -/
class Zok where
  ok : Zone → Prop
structure SR [Tab] [Zok] (K : PySem.W.Frag) (Z : Zone) (F : Forb) (ρ : Env) (σ : St) (H : Hp) : Prop where
  len : ρ.length = σ.length
  al : ∀ a, F a → H a ≠ none
  m0 : ∀ a, Z.M a → F a
  keepM : ∀ a, Z.M a → H a = Z.H a
  ext : ∀ a u, ¬ Z.F a → (∀ ps, u ≠ .tbl ps) → Z.H a = some u → H a = some u
  dom : ∀ a, Z.H a ≠ none → H a ≠ none
  slot : ∀ (i : Nat) sv, ρ[i]? = some (some sv) → ∃ v, σ[i]? = some (some v) ∧ SlotOk K F H v sv
  par : ∀ p ∈ Z.P, ∃ d, ρ[p.1]? = some (some (.par d)) ∧ σ[p.1]? = some (some (.ref p.2))
  apart : ∀ (i j : Nat) a, OwnAt ρ σ i a → OwnAt ρ σ j a → i = j
  notM : ∀ (i : Nat) a, OwnAt ρ σ i a → ¬ Z.M a
  fz : ∀ a, F a → Z.F a ∨ Z.H a = none
  tabs : LamX.Tabs Tab.T H
  fl : ∀ a o, F a → H a = some o → Mb o
  zok : Zok.ok Z
  opq : ∀ p ∈ Z.O, (∃ o, ρ[p.1]? = some (some (.opq o)) ∧ o.prot = true) ∧ σ[p.1]? = some (some p.2)
/-- from one state to a later one, the slots' values as they were -/
structure Step [Tab] (σ : St) (F F' : Forb) (ρ ρ' : Env) (H H' : Hp) : Prop where
  car : Car F F' H H'
  kp : ∀ a, F a → F' a ∨ ∃ i, OwnAt ρ σ i a ∧ ¬ OwnAt ρ' σ i a
  tm : ∀ a, F a → (∀ i, ¬ OwnAt ρ σ i a) → H' a = H a
  ow : ∀ i a, OwnAt ρ' σ i a → OwnAt ρ σ i a
  dom : ∀ a, H a ≠ none → H' a ≠ none
  has : ∀ i, slotD ρ i ≠ none → slotD ρ' i ≠ none
/-- an expression's value v, told as r -/
def VOk (K : PySem.W.Frag) (Z : Zone) (F : Forb) (ρ : Env) (σ : St) (H : Hp) (v : V) : RV → Prop
  | .dat d => Rep K F H v d
  | .own d => ∃ a, v = .ref a ∧ F a ∧ Own K F H a d ∧ ¬ Z.M a ∧ ∀ i, ¬ OwnAt ρ σ i a
  | .bor i => σ[i]? = some (some v) ∧ slotD ρ i ≠ none
  | .thg o => ObjR K F H v o
/-- what is new was not there -/
def New (H : Hp) (v : V) : RV → Prop
  | .own _ => ∀ a, v = .ref a → H a = none
  | _ => True
theorem New.back {H H1 : Hp} {v : V} {r : RV} (n : New H1 v r) (d : ∀ a, H a ≠ none → H1 a ≠ none) : New H v r := by
  cases r with
  | own _ =>
    intro a e
    cases q : H a with
    | none => rfl
    | some o => exact absurd (n a e) (d a (nn q))
  | _ => trivial
theorem Step.refl [Tab] {σ : St} {F : Forb} {ρ : Env} {H : Hp} : Step σ F F ρ ρ H H :=
  ⟨.refl, fun _ f => .inl f, fun _ _ _ => rfl, fun _ _ o => o, fun _ h => h, fun _ h => h⟩
theorem Step.trans [Tab] {σ : St} {F F1 F2 : Forb} {ρ ρ1 ρ2 : Env} {H H1 H2 : Hp} (a : Step σ F F1 ρ ρ1 H H1) (b : Step σ F1 F2 ρ1 ρ2 H1 H2) : Step σ F F2 ρ ρ2 H H2 where
  car := ⟨fun x u n t r => b.car.rd x u (a.car.not n r) t (a.car.rd x u n t r), fun x f => by
    rcases b.car.fr x f with z | z
    · exact a.car.fr x z
    · right
      cases q : H x with
      | none => rfl
      | some o => exact absurd z (a.dom x (by rw [q]; intro z; cases z)), fun t => b.car.tb (a.car.tb t)⟩
  kp := fun x f => by
    rcases a.kp x f with z | ⟨i, z1, z2⟩
    · rcases b.kp x z with y | ⟨i, y1, y2⟩
      · exact .inl y
      · exact .inr ⟨i, a.ow _ _ y1, y2⟩
    · exact .inr ⟨i, z1, fun y => z2 (b.ow _ _ y)⟩
  tm := fun x f n => by
    have n1 : ∀ i, ¬ OwnAt ρ1 σ i x := fun i o => n i (a.ow _ _ o)
    have f1 : F1 x := by
      rcases a.kp x f with z | ⟨i, z1, _⟩
      · exact z
      · exact absurd z1 (n i)
    rw [b.tm x f1 n1, a.tm x f n]
  ow := fun i x o => a.ow _ _ (b.ow _ _ o)
  dom := fun x h => b.dom x (a.dom x h)
  has := fun i h => b.has i (a.has i h)
section
variable [Tab] [Zok] {K : PySem.W.Frag} {Z : Zone} {F F' : Forb} {ρ ρ' : Env} {σ : St} {H H' : Hp}
theorem ObjR.car {v : V} {o : OV} (c : Car F F' H H') (r : ObjR K F H v o) : ObjR K F' H' v o := by
  cases o with
  | unk => trivial
  | exc cl =>
    obtain ⟨a, C, oe, e, n, h, z, d, q⟩ := r
    exact ⟨a, C, oe, e, c.not n h, c.rd a _ n (fun ps z => HO.noConfusion z) h, z, d, q⟩
  | fnv x => exact r
theorem Own.car {a : Addr} {d : D} (c : Car F F' H H') (e : H' a = H a) (o : Own K F H a d) : Own K F' H' a d := by
  cases d with
  | list ds => obtain ⟨xs, h, z, r⟩ := o; exact ⟨xs, e.trans h, z, r.car c⟩
  | _ => exact o
theorem VOk.step {v : V} {r : RV} (s : Step σ F F' ρ ρ' H H') (h : VOk K Z F ρ σ H v r) : VOk K Z F' ρ' σ H' v r := by
  cases r with
  | dat d => exact Rep.car s.car h
  | own d =>
    obtain ⟨a, e, f, o, m, n⟩ := h
    refine ⟨a, e, ?_, o.car s.car (s.tm a f n), m, fun i z => n i (s.ow _ _ z)⟩
    rcases s.kp a f with z | ⟨i, z1, _⟩
    · exact z
    · exact absurd z1 (n i)
  | bor i => exact ⟨h.1, s.has i h.2⟩
  | thg o => exact ObjR.car s.car h
theorem Own.dp {a : Addr} {d : D} (p : d.plain = true) (o : Own K F H a d) : Dp K H (.ref a) d := by
  cases d with
  | list ds => obtain ⟨xs, h, _, r⟩ := o; exact .lst (.inl (.inl h)) (r.dp (by simpa only [PyData.plain] using p))
  | _ => exact o.elim
/-- forgetting that something is forbidden: what is no slot's own -/
theorem SR.drop {q : Forb} (S : SR K Z F ρ σ H) (hm : ∀ a, q a → ¬ Z.M a) (ho : ∀ a, q a → ∀ i, ¬ OwnAt ρ σ i a) : SR K Z (fun a => F a ∧ ¬ q a) ρ σ H where
  len := S.len
  al := fun a f => S.al a f.1
  m0 := fun a m => ⟨S.m0 a m, fun z => hm a z m⟩
  keepM := S.keepM
  ext := S.ext
  dom := S.dom
  slot := fun i sv e => by
    obtain ⟨v, h1, h2⟩ := S.slot i sv e
    have c : Car F (fun a => F a ∧ ¬ q a) H H := Car.sub fun a f => f.1
    refine ⟨v, h1, ?_⟩
    cases sv with
    | dat d => exact Rep.car c h2
    | own d => obtain ⟨a, rfl, f, o⟩ := h2; exact ⟨a, rfl, ⟨f, fun z => ho a z i ⟨_, e, rfl, h1⟩⟩, o.car c rfl⟩
    | par d => obtain ⟨a, rfl, f, o⟩ := h2; exact ⟨a, rfl, ⟨f, fun z => ho a z i ⟨_, e, rfl, h1⟩⟩, o.car c rfl⟩
    | opq o => exact ObjR.car c h2
  par := S.par
  apart := S.apart
  notM := S.notM
  fz := fun a f => S.fz a f.1
  tabs := S.tabs
  fl := fun a o f => S.fl a o f.1
  zok := S.zok
  opq := S.opq
end

/-! ### the judgements -/
/-- an exception's class by its name; its fields, if any -/
def ExcOk (mg : Str → Option Value) (H : Hp) (e : Exc) (cls : Value) (d : Option Addr) : Prop :=
  (∃ C, cls = .ref C ∧ mg e.cls = some (.ref C)) ∧ (e.args = [] → d = none)
/-- what is asked of a reckoning's end -/
def Post [Tab] [Zok] {α : Type} (X : Cx) (W : WX) (Z : Zone) (σ : St) (F : Forb) (ρ : Env) (H : Hp) (G : α → Env → Forb → Hp → Prop) : Out α → Prop
  | .ok r ρ' => ∀ H' F', SR X.K Z F' ρ' σ H' → Step σ F F' ρ ρ' H H' → G r ρ' F' H'
  | .exc e ρ' => ∀ cls d H' F', SR X.K Z F' ρ' σ H' → Step σ F F' ρ ρ' H H' → ExcOk X.mg H' e cls d → W cls d σ H'
  | .no => False
def GE [Tab] [Zok] (X : Cx) (Z : Zone) (σ : St) (H : Hp) (Q : VK) : RV → Env → Forb → Hp → Prop := fun r ρ' F' H' => ∀ v, VOk X.K Z F' ρ' σ H' v r → New H v r → Q v H'
/-- the reading of an expression that reckons m -/
def RE [Tab] [Zok] (X : Cx) (W : WX) (m : ME) : TE := fun σ H Q => ∃ Z F ρ, SR X.K Z F ρ σ H ∧ Post X W Z σ F ρ H (GE X Z σ H Q) (m ρ)
def RT [Tab] [Zok] (X : Cx) (W : WX) (m : MB) : TT := fun σ H Q => ∃ Z F ρ, SR X.K Z F ρ σ H ∧ Post X W Z σ F ρ H (fun b _ _ H' => Q b H') (m ρ)
inductive VsOk (K : PySem.W.Frag) (Z : Zone) (F : Forb) (ρ : Env) (σ : St) (H : Hp) : List V → List RV → Prop
  | nil : VsOk K Z F ρ σ H [] []
  | cons {v vs r rs} : VOk K Z F ρ σ H v r → VsOk K Z F ρ σ H vs rs → VsOk K Z F ρ σ H (v :: vs) (r :: rs)
inductive News (H : Hp) : List V → List RV → Prop
  | nil : News H [] []
  | cons {v vs r rs} : New H v r → News H vs rs → News H (v :: vs) (r :: rs)
theorem VsOk.step [Tab] [Zok] {K : PySem.W.Frag} {Z : Zone} {F F' : Forb} {ρ ρ' : Env} {σ : St} {H H' : Hp} (s : Step σ F F' ρ ρ' H H') : ∀ {vs : List V} {rs : List RV}, VsOk K Z F ρ σ H vs rs → VsOk K Z F' ρ' σ H' vs rs
  | _, _, .nil => .nil
  | _, _, .cons h t => .cons (h.step s) (VsOk.step s t)
theorem News.back {H H1 : Hp} (d : ∀ a, H a ≠ none → H1 a ≠ none) : ∀ {vs : List V} {rs : List RV}, News H1 vs rs → News H vs rs
  | _, _, .nil => .nil
  | _, _, .cons h t => .cons (h.back d) (News.back d t)
def GA (X : Cx) (Z : Zone) (σ : St) (H : Hp) (Q : List V → Hp → Prop) : List RV → Env → Forb → Hp → Prop := fun r ρ' F' H' => ∀ vs, VsOk X.K Z F' ρ' σ H' vs r → News H vs r → Q vs H'
def RA [Tab] [Zok] (X : Cx) (W : WX) (m : MEs) : TA := fun σ H Q => ∃ Z F ρ, SR X.K Z F ρ σ H ∧ Post X W Z σ F ρ H (GA X Z σ H Q) (m ρ)
abbrev QE [Tab] [Zok] (X : Cx) (W : WX) (e : Expr) (m : ME) : Prop := PE X e (RE X W m)
abbrev QT [Tab] [Zok] (X : Cx) (W : WX) (e : Expr) (m : MB) : Prop := PT X e (RT X W m)
abbrev QA [Tab] [Zok] (X : Cx) (W : WX) (es : List Expr) (m : MEs) : Prop := PA X es (RA X W m)
theorem PE.of {X : Cx} {e : Expr} {t u : TE} (h : PE X e t) (i : ∀ σ H Q, u σ H Q → t σ H Q) : PE X e u := ⟨fun pins s σ H Q I hw => h.run pins s σ H Q I (i _ _ _ hw)⟩
theorem PT.of {X : Cx} {e : Expr} {t u : TT} (h : PT X e t) (i : ∀ σ H Q, u σ H Q → t σ H Q) : PT X e u := ⟨fun pins s σ H Q I hw => h.run pins s σ H Q I (i _ _ _ hw)⟩
theorem PA.of {X : Cx} {e : List Expr} {t u : TA} (h : PA X e t) (i : ∀ σ H Q, u σ H Q → t σ H Q) : PA X e u := ⟨fun pos pins s σ H Q I hw => h.run pos pins s σ H Q I (i _ _ _ hw)⟩
theorem PS.of {X : Cx} {e : Stmt} {t u : TS} (h : PS X e t) (i : ∀ D σ H, u D σ H → t D σ H) : PS X e u := ⟨fun pins s σ H D I hw => h.run pins s σ H D I (i _ _ _ hw)⟩
theorem PSs.of {X : Cx} {e : List Stmt} {t u : TS} (h : PSs X e t) (i : ∀ D σ H, u D σ H → t D σ H) : PSs X e u := ⟨fun pins s σ H D I hw => h.run pins s σ H D I (i _ _ _ hw)⟩

/-! ### the reckoning's own steps -/
def Out.bind {α β : Type} (o : Out α) (f : α → Env → Out β) : Out β := match o with
  | .ok a ρ => f a ρ
  | .exc e ρ => .exc e ρ
  | .no => .no
def mC (d : D) : ME := fun ρ => .ok (.dat d) ρ
/-- a name that is read and not kept -/
def mV (i : Nat) : ME := fun ρ => match ρ[i]? with
  | some (some (.dat d)) => .ok (.dat d) ρ
  | some (some (.own _)) => .ok (.bor i) ρ
  | some (some (.par _)) => .ok (.bor i) ρ
  | some (some (.opq o)) => .ok (.thg o) ρ
  | _ => .no
/-- a name whose list is given away: from here on it is data -/
def mMv (i : Nat) : ME := fun ρ => match ρ[i]? with
  | some (some (.dat d)) => .ok (.dat d) ρ
  | some (some (.own d)) => .ok (.dat d) (ρ.set i (some (.dat d)))
  | _ => .no
def mNil : MEs := fun ρ => .ok [] ρ
def mCons (a : ME) (b : MEs) : MEs := fun ρ => (a ρ).bind fun x ρ1 => (b ρ1).bind fun xs ρ2 => .ok (x :: xs) ρ2
/-- two values, then what is reckoned of their data -/
def m2 (a b : ME) (f : D → D → Option RV) : ME := fun ρ => (a ρ).bind fun x ρ1 => (b ρ1).bind fun y ρ2 => match x.get ρ2, y.get ρ2 with
  | some d, some e => match f d e with
    | some r => .ok r ρ2
    | none => .no
  | _, _ => .no
def m1 (a : ME) (f : D → Option RV) : ME := fun ρ => (a ρ).bind fun x ρ1 => match x.get ρ1 with
  | some d => match f d with
    | some r => .ok r ρ1
    | none => .no
  | _ => .no
/-- the data of values -/
def gets (ρ : Env) : List RV → Option (List D)
  | [] => some []
  | r :: rs => match r.get ρ, gets ρ rs with
    | some d, some ds => some (d :: ds)
    | _, _ => none
def mN (a : MEs) (f : List D → Option RV) : ME := fun ρ => (a ρ).bind fun xs ρ1 => match gets ρ1 xs with
  | some ds => match f ds with
    | some r => .ok r ρ1
    | none => .no
  | _ => .no

section
variable [Tab] [Zok] {X : Cx} {W : WX} {Z : Zone} {σ : St} {F F1 : Forb} {ρ ρ1 : Env} {H H1 : Hp}
theorem Post.later {α : Type} {G : α → Env → Forb → Hp → Prop} {o : Out α} (p : Post X W Z σ F ρ H G o) (s : Step σ F F1 ρ ρ1 H H1) : Post X W Z σ F1 ρ1 H1 G o := by
  cases o with
  | ok r ρ' => exact fun H' F' S st => p H' F' S (s.trans st)
  | exc e ρ' => exact fun cls d H' F' S st => p cls d H' F' S (s.trans st)
  | no => exact p
theorem Post.bind {α β : Type} {G : α → Env → Forb → Hp → Prop} {G' : β → Env → Forb → Hp → Prop} {o : Out α} {f : α → Env → Out β} (p : Post X W Z σ F ρ H G' (o.bind f))
    (h : ∀ a ρ1 H1 F1, o = .ok a ρ1 → SR X.K Z F1 ρ1 σ H1 → Step σ F F1 ρ ρ1 H H1 → Post X W Z σ F1 ρ1 H1 G' (f a ρ1) → G a ρ1 F1 H1) : Post X W Z σ F ρ H G o := by
  cases o with
  | ok a ρ1 => exact fun H1 F1 S st => h a ρ1 H1 F1 rfl S st (Post.later (o := f a ρ1) p st)
  | exc e ρ' => exact p
  | no => exact p
theorem Post.imp {α : Type} {G G' : α → Env → Forb → Hp → Prop} {o : Out α} (p : Post X W Z σ F ρ H G o) (h : ∀ a ρ1 F1 H1, SR X.K Z F1 ρ1 σ H1 → Step σ F F1 ρ ρ1 H H1 → G a ρ1 F1 H1 → G' a ρ1 F1 H1) : Post X W Z σ F ρ H G' o := by
  cases o with
  | ok r ρ' => exact fun H' F' S st => h _ _ _ _ S st (p H' F' S st)
  | exc e ρ' => exact p
  | no => exact p
theorem q_c {e : Expr} {v : V} {d : D} (h : PE X e (tC v)) (r : ∀ F H, Rep X.K F H v d) : QE X W e (mC d) := by
  refine PE.of h fun σ H Q hq => ?_
  obtain ⟨Z, F, ρ, S, k⟩ := hq
  exact k H F S .refl v (r _ _) trivial
theorem q_int {i : Int} {j pos} : QE X W (.Constant (.int i) j pos) (mC (.int i)) := q_c pe_int fun _ _ => .int i
theorem q_bl {b : Bool} {j pos} : QE X W (.Constant (.bool b) j pos) (mC (.bool b)) := q_c pe_bl fun _ _ => .bl b
theorem q_non {j pos} : QE X W (.Constant .none j pos) (mC .none) := q_c pe_non fun _ _ => .non
theorem q_str {x : Str} {j pos} : QE X W (.Constant (.str x) j pos) (mC (.str x)) := q_c pe_str fun _ _ => .str x
theorem slotD_some {ρ : Env} {i : Nat} {sv : SV} (h : ρ[i]? = some (some sv)) (ho : sv.opaque = false := by rfl) : slotD ρ i = some sv.get := by
  unfold slotD; rw [h]
  cases sv <;> first | rfl | cases ho
theorem q_v {e : Expr} {i : Nat} (h : PE X e (tVar i)) : QE X W e (mV i) := by
  refine PE.of h fun σ H Q hq => ?_
  obtain ⟨Z, F, ρ, S, k⟩ := hq
  unfold mV at k
  cases q : ρ[i]? with
  | none => rw [q] at k; exact k.elim
  | some o =>
    cases o with
    | none => rw [q] at k; exact k.elim
    | some sv =>
      obtain ⟨v, e1, ok⟩ := S.slot i sv q
      rw [q] at k
      cases sv with
      | dat d => exact ⟨v, e1, k H F S .refl v ok trivial⟩
      | own d => exact ⟨v, e1, k H F S .refl v ⟨e1, by rw [slotD_some q]; exact fun z => nomatch z⟩ trivial⟩
      | par d => exact ⟨v, e1, k H F S .refl v ⟨e1, by rw [slotD_some q]; exact fun z => nomatch z⟩ trivial⟩
      | opq o => exact ⟨v, e1, k H F S .refl v ok trivial⟩

/-! ### a later heap -/
/-- the same slots over another heap -/
theorem SR.car {K : PySem.W.Frag} {F' : Forb} {H' : Hp} (S : SR K Z F ρ σ H) (c : Car F F' H H') (hF : ∀ a, F a → F' a) (he : ∀ a, F a → H' a = H a) (ha : ∀ a, F' a → H' a ≠ none) (hd : ∀ a, H a ≠ none → H' a ≠ none)
    (hx : ∀ a u, ¬ Z.F a → (∀ ps, u ≠ .tbl ps) → H a = some u → H' a = some u) (hfl : ∀ a o, F' a → ¬ F a → H' a = some o → Mb o) : SR K Z F' ρ σ H' where
  fl := fun a o f e => by
    by_cases h : F a
    · exact S.fl a o h ((he a h).symm.trans e)
    · exact hfl a o f h e
  len := S.len
  al := ha
  m0 := fun a m => hF a (S.m0 a m)
  keepM := fun a m => (he a (S.m0 a m)).trans (S.keepM a m)
  tabs := c.tb S.tabs
  zok := S.zok
  opq := S.opq
  ext := fun a u n t e => hx a u n t (S.ext a u n t e)
  dom := fun a e => hd a (S.dom a e)
  slot := fun i sv e => by
    obtain ⟨v, h1, h2⟩ := S.slot i sv e
    refine ⟨v, h1, ?_⟩
    cases sv with
    | dat d => exact Rep.car c h2
    | own d => obtain ⟨a, rfl, f, o⟩ := h2; exact ⟨a, rfl, hF a f, o.car c (he a f)⟩
    | par d => obtain ⟨a, rfl, f, o⟩ := h2; exact ⟨a, rfl, hF a f, o.car c (he a f)⟩
    | opq o => exact ObjR.car c h2
  par := S.par
  apart := S.apart
  notM := S.notM
  fz := fun a f => by
    rcases c.fr a f with z | z
    · exact S.fz a z
    · right
      cases q : Z.H a with
      | none => rfl
      | some o => exact absurd z (S.dom a (nn q))
/-- all that is tracked stays -/
theorem same_new {p : Addr} {o : HO} (n : H p = none) : ∀ a u, H a = some u → upd H p o a = some u := fun a u e => by rw [upd_ne (ne_of_none e n)]; exact e
theorem SR.new {K : PySem.W.Frag} {p : Addr} {o : HO} (S : SR K Z F ρ σ H) (n : H p = none) : SR K Z F ρ σ (upd H p o) ∧ Step σ F F ρ ρ H (upd H p o) := by
  have hs := same_new (o := o) n
  have hd : ∀ a, H a ≠ none → upd H p o a ≠ none := fun a h => by
    cases q : H a with
    | none => exact absurd q h
    | some u => exact nn (hs a u q)
  have he : ∀ a, F a → upd H p o a = H a := fun a f => by
    cases q : H a with
    | none => exact absurd q (S.al a f)
    | some u => exact hs a u q
  refine ⟨S.car ⟨fun a u _ _ e => hs a u e, fun a f => .inl f, fun t => t.ext hs⟩ (fun _ f => f) he (fun a f => hd a (S.al a f)) hd (fun a u _ _ e => hs a u e) (fun a o f n => absurd f n), ⟨⟨fun a u _ _ e => hs a u e, fun a f => .inl f, fun t => t.ext hs⟩, fun a f => .inl f, fun a f _ => he a f, fun _ _ o => o, hd, fun _ h => h⟩⟩
/-- a new list of one's own at p -/
theorem SR.newOwn {K : PySem.W.Frag} {p : Addr} {o : HO} (S : SR K Z F ρ σ H) (n : H p = none) (mb : Mb o) : SR K Z (fun a => F a ∨ a = p) ρ σ (upd H p o) ∧ Step σ F (fun a => F a ∨ a = p) ρ ρ H (upd H p o) := by
  have hs := same_new (o := o) n
  have hd : ∀ a, H a ≠ none → upd H p o a ≠ none := fun a h => by
    cases q : H a with
    | none => exact absurd q h
    | some u => exact nn (hs a u q)
  have he : ∀ a, F a → upd H p o a = H a := fun a f => by
    cases q : H a with
    | none => exact absurd q (S.al a f)
    | some u => exact hs a u q
  have hfr : ∀ a, (F a ∨ a = p) → F a ∨ H a = none := fun a f => f.elim .inl fun z => .inr (z ▸ n)
  refine ⟨S.car ⟨fun a u _ _ e => hs a u e, hfr, fun t => t.ext hs⟩ (fun _ f => .inl f) he (fun a f => ?_) hd (fun a u _ _ e => hs a u e) (fun a u f nf e => ?_), ⟨⟨fun a u _ _ e => hs a u e, hfr, fun t => t.ext hs⟩, fun a f => .inl (.inl f), fun a f _ => he a f, fun _ _ o => o, hd, fun _ h => h⟩⟩
  · rcases f with f | rfl
    · exact hd a (S.al a f)
    · rw [upd_same]; exact fun z => nomatch z
  · rcases f with f | rfl
    · exact absurd f nf
    · rw [upd_same] at e; cases e; exact mb
theorem SR.noown {K : PySem.W.Frag} {p : Addr} (S : SR K Z F ρ σ H) (n : H p = none) : ¬ F p ∧ ¬ Z.M p ∧ ∀ i, ¬ OwnAt ρ σ i p := by
  refine ⟨fun f => S.al p f n, fun m => S.al p (S.m0 p m) n, fun i o => ?_⟩
  obtain ⟨sv, h1, h2, h3⟩ := o
  obtain ⟨v, e1, ok⟩ := S.slot i sv h1
  rw [h3] at e1; cases e1
  cases sv with
  | dat d => cases h2
  | own d => obtain ⟨a, e, f, _⟩ := ok; cases e; exact S.al p f n
  | par d => obtain ⟨a, e, f, _⟩ := ok; cases e; exact S.al p f n
  | opq o => cases h2
/-- what is given at last: data -/
theorem Post.dat {Q : VK} {d : D} {v : V} {H0 : Hp} (p : Post X W Z σ F ρ H (GE X Z σ H0 Q) (.ok (.dat d) ρ)) (S : SR X.K Z F ρ σ H) (r : Rep X.K F H v d) : Q v H :=
  p H F S .refl v r trivial
/-- a new tuple -/
theorem Post.tup {Q : VK} {ds : List D} {vs : List V} {H0 : Hp} (p : Post X W Z σ F ρ H (GE X Z σ H0 Q) (.ok (.dat (.tuple ds)) ρ)) (S : SR X.K Z F ρ σ H) (r : RepAll X.K F H vs ds) (z : vs.length ≤ sizeLine) :
    ∀ q, H q = none → Q (.ref q) (upd H q (.tup vs)) := fun q n => by
  obtain ⟨S1, st⟩ := S.new (o := .tup vs) n
  exact p _ F S1 st _ (.tup (S.noown n).1 upd_same z (r.car st.car)) trivial
/-- a new list -/
theorem Post.lst {Q : VK} {ds : List D} {vs : List V} {H0 : Hp} (p : Post X W Z σ F ρ H (GE X Z σ H0 Q) (.ok (.own (.list ds)) ρ)) (S : SR X.K Z F ρ σ H) (r : RepAll X.K F H vs ds) (z : vs.length ≤ sizeLine) (hd : ∀ a, H0 a ≠ none → H a ≠ none) :
    ∀ q, H q = none → Q (.ref q) (upd H q (.lst vs)) := fun q n => by
  obtain ⟨S1, st⟩ := S.newOwn (o := .lst vs) n trivial
  have no := S.noown n
  refine p _ _ S1 st _ ⟨q, rfl, .inr rfl, ⟨vs, upd_same, z, r.car st.car⟩, no.2.1, no.2.2⟩ ?_
  intro a e
  cases e
  cases h : H0 q with
  | none => rfl
  | some o => exact absurd n (hd q (nn h))
end
end PD

namespace PD
open PySem PySem.Spec PyProof.Rows L2
abbrev LINE : Nat := 16777216
theorem line_eq : sizeLine = LINE := sizeLine_eq
/-- read as data; what lies within is not forbidden -/
def Top (K : PySem.W.Frag) (F : Forb) (H : Hp) (v : V) (d : D) : Prop :=
  Rep K F H v d ∨ ∃ a ds xs, v = .ref a ∧ d = .list ds ∧ H a = some (.lst xs) ∧ xs.length ≤ sizeLine ∧ RepAll K F H xs ds
section
variable [Tab] [Zok] {K : PySem.W.Frag} {Z : Zone} {F : Forb} {ρ : Env} {σ : St} {H : Hp} {v : V}
theorem Own.top {a : Addr} {d : D} (o : Own K F H a d) : Top K F H (.ref a) d := by
  cases d with
  | list ds => obtain ⟨xs, h, z, r⟩ := o; exact .inr ⟨a, ds, xs, rfl, rfl, h, z, r⟩
  | _ => exact o.elim
theorem VOk.top {r : RV} {d : D} (S : SR K Z F ρ σ H) (h : VOk K Z F ρ σ H v r) (e : r.get ρ = some d) : Top K F H v d := by
  cases r with
  | dat d' => cases e; exact .inl h
  | own d' => cases e; obtain ⟨a, rfl, _, o, _⟩ := h; exact o.top
  | bor i =>
    obtain ⟨h1, h2⟩ := h
    have e' : slotD ρ i = some d := e
    unfold slotD at e'
    cases q : ρ[i]? with
    | none => rw [q] at e'; cases e'
    | some x =>
      cases x with
      | none => rw [q] at e'; cases e'
      | some sv =>
        rw [q] at e'
        obtain ⟨v', e1, ok⟩ := S.slot i sv q
        rw [h1] at e1; cases e1
        cases sv with
        | dat d => cases e'; exact .inl ok
        | own d => cases e'; obtain ⟨a, rfl, _, o⟩ := ok; exact o.top
        | par d => cases e'; obtain ⟨a, rfl, _, o⟩ := ok; exact o.top
        | opq _ => cases e'
  | thg o => cases e
theorem Top.dp {d : D} (t : Top K F H v d) (p : d.plain = true) : Dp K H v d := by
  rcases t with r | ⟨a, ds, xs, rfl, rfl, h, _, r⟩
  · exact r.dp p
  · exact .lst (.inl (.inl h)) (r.dp (by simpa only [PyData.plain] using p))
theorem Top.int {i : Int} (t : Top K F H v (.int i)) : v = .int i := by
  rcases t with r | ⟨a, ds, xs, rfl, h, _⟩
  · cases r; rfl
  · cases h
theorem Top.str {i : Str} (t : Top K F H v (.str i)) : v = .str i := by
  rcases t with r | ⟨a, ds, xs, rfl, h, _⟩
  · cases r; rfl
  · cases h
theorem Top.bool {i : Bool} (t : Top K F H v (.bool i)) : v = .bl i := by
  rcases t with r | ⟨a, ds, xs, rfl, h, _⟩
  · cases r; rfl
  · cases h
theorem Top.none (t : Top K F H v .none) : v = .non := by
  rcases t with r | ⟨a, ds, xs, rfl, h, _⟩
  · cases r; rfl
  · cases h
theorem Top.list {ds : List D} (t : Top K F H v (.list ds)) : ∃ a xs, v = .ref a ∧ Rd H a (.lst xs) ∧ xs.length ≤ sizeLine ∧ RepAll K F H xs ds := by
  rcases t with r | ⟨a, ds, xs, rfl, h, e, z, r⟩
  · cases r with
    | lst n e z r => exact ⟨_, _, rfl, .inl e, z, r⟩
    | lstF n e z r => exact ⟨_, _, rfl, .inr ⟨_, e⟩, z, r⟩
  · cases h; exact ⟨a, xs, rfl, .inl e, z, r⟩
theorem Top.tuple {ds : List D} (t : Top K F H v (.tuple ds)) : ∃ a xs, v = .ref a ∧ SqT K H a xs ∧ xs.length ≤ sizeLine ∧ RepAll K F H xs ds ∧ Rep K F H v (.tuple ds) := by
  rcases t with r | ⟨a, ds, xs, rfl, h, e, z, r⟩
  · have r0 := r
    cases r with
    | tup n e z r => exact ⟨_, _, rfl, .inl (.inl e), z, r, r0⟩
    | tupK e1 e2 e3 e4 e5 r =>
      refine ⟨_, _, rfl, .inr ⟨_, _, _, e1, e2, e3, e4, e5⟩, ?_, r, r0⟩
      have := e5.length
      simp at this
      omega
  · cases h
end

/-! ### operators on data -/
def mulOk (i j : Int) : Bool := decide (-(2 ^ 64) < i ∧ i < 2 ^ 64) || decide (-(2 ^ 64) < j ∧ j < 2 ^ 64) || decide (i.natAbs.log2 + j.natAbs.log2 < 1000000)
def dAdd : D → D → Option RV
  | .int i, .int j => some (.dat (.int (i + j)))
  | .str x, .str y => if x.length + y.length ≤ LINE then some (.dat (.str (x ++ y))) else none
  | .list xs, .list ys => if xs.length + ys.length ≤ LINE then some (.own (.list (xs ++ ys))) else none
  | .tuple xs, .tuple ys => if xs.length + ys.length ≤ LINE then some (.dat (.tuple (xs ++ ys))) else none
  | _, _ => none
def dSub : D → D → Option RV
  | .int i, .int j => some (.dat (.int (i - j)))
  | _, _ => none
def dMul : D → D → Option RV
  | .int i, .int j => if mulOk i j then some (.dat (.int (i * j))) else none
  | .list xs, .int k => if -1000 ≤ k ∧ k ≤ 1000000 ∧ xs.length * k.toNat ≤ LINE then some (.own (.list (List.replicate k.toNat xs).flatten)) else none
  | .tuple xs, .int k => if xs ≠ [] ∧ 2 ≤ k ∧ k ≤ 1000 ∧ xs.length ≤ 1000 then some (.dat (.tuple (List.replicate k.toNat xs).flatten)) else if k = 1 then some (.dat (.tuple xs)) else none
  | _, _ => none
def dDiv : D → D → Option RV
  | .int i, .int j => if 0 < j then (if j < 1073741824 ∨ j.natAbs.log2 < 9000 then some (.dat (.int (i / j))) else none)
      else if j ≠ 0 ∧ j.natAbs < 1073741824 then some (.dat (.int (i.fdiv j))) else none
  | _, _ => none
def dMod : D → D → Option RV
  | .int i, .int j => if 0 < j then some (.dat (.int (i % j))) else if j ≠ 0 then some (.dat (.int (i.fmod j))) else none
  | _, _ => none
def dPow : D → D → Option RV
  | .int i, .int j => if 0 ≤ j ∧ j ≤ 1000000 ∧ i.natAbs < 2 ^ 64 then some (.dat (.int (i ^ j.toNat))) else none
  | _, _ => none
def dNeg : D → Option RV
  | .int i => some (.dat (.int (-i)))
  | _ => none
def eqOk (d e : D) : Bool := d.plain && e.plain && decide (min d.depth e.depth ≤ 64)
def dEq (d e : D) : Option RV := if eqOk d e then some (.dat (.bool (PyData.eqv d e))) else none
def dNe (d e : D) : Option RV := if eqOk d e then some (.dat (.bool (!PyData.eqv d e))) else none
def ltOk (d e : D) : Bool := d.plain && e.plain && PySem.W.alike d e && decide (min d.depth e.depth ≤ 64) && (match d with | .none => false | _ => true)
def dLt (d e : D) : Option RV := if ltOk d e then some (.dat (.bool (PySem.W.dataLt d e))) else none
def dGt (d e : D) : Option RV := if ltOk d e then some (.dat (.bool (PySem.W.dataLt e d))) else none
def dLe (d e : D) : Option RV := if ltOk d e then some (.dat (.bool (!PySem.W.dataLt e d))) else none
def dGe (d e : D) : Option RV := if ltOk d e then some (.dat (.bool (!PySem.W.dataLt d e))) else none
def inAny (d : D) (xs : List D) : Bool := xs.any fun y => PyData.eqv y d
def dIn (d e : D) : Option RV := match e with
  | .list xs | .tuple xs => if d.plain && PyData.plainAll xs && decide (min (PyData.depthAll xs) d.depth ≤ 60) then some (.dat (.bool (inAny d xs))) else none
  | .str y => match d with
    | .str x => some (.dat (.bool (!(Builtin.Str.occurrences y x 0 y.length 1).isEmpty)))
    | _ => none
  | _ => none
def dNotIn (d e : D) : Option RV := match dIn d e with
  | some (.dat (.bool b)) => some (.dat (.bool (!b)))
  | _ => none

section
variable [Tab] [Zok] {X : Cx} {W : WX}
/-- an operator's reading serves f -/
def Serves2 (X : Cx) (r : R2) (f : D → D → Option RV) : Prop := ∀ (W : WX) (Z : Zone) (F : Forb) (ρ : Env) (σ : St) (H H0 : Hp) (x y : V) (d e : D) (rv : RV) (Q : VK), SR X.K Z F ρ σ H → (∀ a, H0 a ≠ none → H a ≠ none) → Top X.K F H x d → Top X.K F H y e → f d e = some rv →
  Post X W Z σ F ρ H (GE X Z σ H0 Q) (.ok rv ρ) → r x y H Q
theorem q_2 {e : Expr} {r : R2} {a b : ME} {f : D → D → Option RV} (h : PE X e (tOp r (RE X W a) (RE X W b))) (ok : Serves2 X r f) : QE X W e (m2 a b f) := by
  refine PE.of h fun σ H Q hq => ?_
  obtain ⟨Z, F, ρ, S, k⟩ := hq
  refine ⟨Z, F, ρ, S, Post.bind k fun x ρ1 H1 F1 e1 S1 st1 k1 v1 vo1 nw1 => ⟨Z, F1, ρ1, S1, Post.bind k1 fun y ρ2 H2 F2 e2 S2 st2 k2 v2 vo2 nw2 => ?_⟩⟩
  have vo1' := vo1.step st2
  cases g1 : x.get ρ2 with
  | none => rw [g1] at k2; exact k2.elim
  | some d =>
    cases g2 : y.get ρ2 with
    | none => rw [g1, g2] at k2; exact k2.elim
    | some d' =>
      cases g3 : f d d' with
      | none => rw [g1, g2] at k2; simp only [g3] at k2; exact k2.elim
      | some rv =>
        rw [g1, g2] at k2
        simp only [g3] at k2
        exact ok W Z F2 ρ2 σ H2 H v1 v2 d d' rv Q S2 (fun a z => st2.dom a (st1.dom a z)) (vo1'.top S2 g1) (vo2.top S2 g2) g3 k2
def Serves1 (X : Cx) (r : V → Hp → VK → Prop) (f : D → Option RV) : Prop := ∀ (W : WX) (Z : Zone) (F : Forb) (ρ : Env) (σ : St) (H H0 : Hp) (x : V) (d : D) (rv : RV) (Q : VK), SR X.K Z F ρ σ H → (∀ a, H0 a ≠ none → H a ≠ none) → Top X.K F H x d → f d = some rv →
  Post X W Z σ F ρ H (GE X Z σ H0 Q) (.ok rv ρ) → r x H Q
theorem q_1 {e : Expr} {r : V → Hp → VK → Prop} {a : ME} {f : D → Option RV} (h : PE X e (tUn r (RE X W a))) (ok : Serves1 X r f) : QE X W e (m1 a f) := by
  refine PE.of h fun σ H Q hq => ?_
  obtain ⟨Z, F, ρ, S, k⟩ := hq
  refine ⟨Z, F, ρ, S, Post.bind k fun x ρ1 H1 F1 e1 S1 st1 k1 v1 vo1 nw1 => ?_⟩
  cases g1 : x.get ρ1 with
  | none => rw [g1] at k1; exact k1.elim
  | some d =>
    cases g3 : f d with
    | none => rw [g1] at k1; simp only [g3] at k1; exact k1.elim
    | some rv =>
      rw [g1] at k1
      simp only [g3] at k1
      exact ok W Z F1 ρ1 σ H1 H v1 d rv Q S1 st1.dom (vo1.top S1 g1) g3 k1
/-- a list that is read, added to a list -/
theorem op_catR : OpR X (binaryOp .Add) (fun x y H Q => ∃ l b xs zs, x = V.ref l ∧ y = V.ref b ∧ Rd H l (.lst xs) ∧ Rd H b (.lst zs) ∧ xs.length + zs.length ≤ sizeLine ∧ ∀ p, H p = none → Q (.ref p) (upd H p (.lst (xs ++ zs)))) := by
  intro pins s σ H x y v u Q I rx ry h
  obtain ⟨l, b, xs, zs, rfl, rfl, hH, hB, hz, q⟩ := h
  cases rx
  cases ry
  obtain ⟨z, its, n, r, e⟩ := hH.ok I.hok
  obtain ⟨z2, its2, n2, r2, e2⟩ := hB.ok I.hok
  have hl := r.length
  have hl2 := r2.length
  refine PySem.P.add_list e e2 ?_ (by rw [List.size_toArray, List.size_toArray]; omega)
  have ea : its.toArray ++ its2.toArray = (its ++ its2).toArray := by simp
  rw [ea]
  exact ⟨.ref _, _, I.lnew (t' := s.toks) (r.append r2) (by rw [List.length_append]; omega), rfl, q _ I.fresh⟩
theorem sv_add : Serves2 X (fun x y H Q => (rI0 (fun i j => .int (i + j)) x y H Q) ∨ (∃ i j, x = V.str i ∧ y = V.str j ∧ i.length + j.length ≤ sizeLine ∧ Q (.str (i ++ j)) H) ∨
    (∃ l b xs zs, x = V.ref l ∧ y = V.ref b ∧ Rd H l (.lst xs) ∧ Rd H b (.lst zs) ∧ xs.length + zs.length ≤ sizeLine ∧ ∀ p, H p = none → Q (.ref p) (upd H p (.lst (xs ++ zs)))) ∨ rCatA X.K x y H Q) dAdd := by
  intro W Z F ρ σ H H0 x y d e rv Q S hd tx ty hf k
  cases d with
  | int i =>
    cases e with
    | int j =>
      cases hf
      exact .inl ⟨i, j, tx.int, ty.int, k.dat S (.int _)⟩
    | _ => cases hf
  | str i =>
    cases e with
    | str j =>
      simp only [dAdd] at hf
      split at hf
      · rename_i h
        cases hf
        exact .inr (.inl ⟨i, j, tx.str, ty.str, by rw [line_eq]; exact h, k.dat S (.str _)⟩)
      · cases hf
    | _ => cases hf
  | list i =>
    cases e with
    | list j =>
      simp only [dAdd] at hf
      split at hf
      · rename_i h
        cases hf
        obtain ⟨a, xs, rfl, ra, za, pa⟩ := tx.list
        obtain ⟨b, ys, rfl, rb, zb, pb⟩ := ty.list
        have z : xs.length + ys.length ≤ sizeLine := by rw [pa.length, pb.length, line_eq]; exact h
        exact .inr (.inr (.inl ⟨a, b, xs, ys, rfl, rfl, ra, rb, z, k.lst S (pa.append pb) (by rw [List.length_append]; exact z) hd⟩))
      · cases hf
    | _ => cases hf
  | tuple i =>
    cases e with
    | tuple j =>
      simp only [dAdd] at hf
      split at hf
      · rename_i h
        cases hf
        obtain ⟨a, xs, rfl, ra, za, pa, wa⟩ := tx.tuple
        obtain ⟨b, ys, rfl, rb, zb, pb, wb⟩ := ty.tuple
        have z : xs.length + ys.length ≤ sizeLine := by rw [pa.length, pb.length, line_eq]; exact h
        refine .inr (.inr (.inr ⟨a, b, xs, ys, rfl, rfl, ra, rb, z, fun e => ?_, fun _ e => ?_, fun _ _ => k.tup S (pa.append pb) (by rw [List.length_append]; exact z)⟩))
        · subst e
          cases pa
          exact k.dat S wb
        · subst e
          cases pb
          rw [List.append_nil] at k
          exact k.dat S wa
      · cases hf
    | _ => cases hf
  | _ => cases hf
theorem q_add {a b : Expr} {ma mb : ME} {pos : Pos} (ha : QE X W a ma) (hb : QE X W b mb) : QE X W (.BinOp a .Add b pos) (m2 ma mb dAdd) :=
  q_2 (pe_op (op_add.or (op_add_str.or (op_catR.or op_catA))) ha hb) sv_add
theorem sv_sub : Serves2 X (rI0 fun i j => .int (i - j)) dSub := by
  intro W Z F ρ σ H H0 x y d e rv Q S hd tx ty hf k
  cases d with
  | int i =>
    cases e with
    | int j => cases hf; exact ⟨i, j, tx.int, ty.int, k.dat S (.int _)⟩
    | _ => cases hf
  | _ => cases hf
theorem q_sub {a b : Expr} {ma mb : ME} {pos : Pos} (ha : QE X W a ma) (hb : QE X W b mb) : QE X W (.BinOp a .Sub b pos) (m2 ma mb dSub) := q_2 (pe_op op_sub ha hb) sv_sub
theorem RepAll.rep {K : PySem.W.Frag} {F : Forb} {H : Hp} {vs : List V} {ds : List D} (r : RepAll K F H vs ds) : ∀ n : Nat, RepAll K F H (List.replicate n vs).flatten (List.replicate n ds).flatten
  | 0 => .nil
  | n + 1 => by simp only [List.replicate_succ, List.flatten_cons]; exact r.append (RepAll.rep r n)
theorem rep_len {α : Type} (xs : List α) (n : Nat) : (List.replicate n xs).flatten.length = xs.length * n := by
  induction n with
  | zero => simp
  | succ n ih => rw [List.replicate_succ, List.flatten_cons, List.length_append, ih, Nat.mul_succ]; omega
/-- a list that is read, times an int -/
theorem op_repR : OpR X (binaryOp .Mult) (fun x y H Q => ∃ l k xs, x = V.ref l ∧ y = .int k ∧ Rd H l (.lst xs) ∧ -(2 ^ 63) ≤ k ∧ k < 2 ^ 63 ∧ xs.length * k.toNat ≤ sizeLine ∧ ∀ p, H p = none → Q (.ref p) (upd H p (.lst (List.replicate k.toNat xs).flatten))) := by
  intro pins s σ H x y v u Q I rx ry h
  obtain ⟨l, k, xs, rfl, rfl, hH, h1, h2, hz, q⟩ := h
  cases rx
  obtain ⟨t, rfl⟩ := ry
  obtain ⟨z, its, n, r, e⟩ := hH.ok I.hok
  have hl := r.length
  have hlen : its.toArray.size * k.toNat ≤ sizeLine := by rw [List.size_toArray, ← hl]; exact hz
  have hcap : ¬ its.toArray.size * k.toNat > (2 ^ 63 - 1) / 8 := by
    have : (sizeLine : Nat) ≤ (2 ^ 63 - 1) / 8 := by decide
    omega
  have hfit : ¬ (!Builtin.List.listFitsIndex k) = true := by
    rw [fitsIndex_both h1 h2]
    exact Bool.false_ne_true
  have hlong : ¬ Builtin.List.listTooLong (its.toArray.size * k.toNat) = true := by
    rw [notLongL hlen]
    exact Bool.false_ne_true
  have hnew : List.foldl (fun x1 x2 => x1 ++ x2) #[] (List.replicate (if its.toArray.isEmpty = true then 0 else k.toNat) its.toArray) = (List.replicate k.toNat its).flatten.toArray := by
    have f0 : ∀ m : Nat, List.foldl (fun x1 x2 => x1 ++ x2) #[] (List.replicate m its.toArray) = (List.replicate m its).flatten.toArray := fun m => by
      have := foldl_rep its m []
      rw [List.nil_append] at this
      exact this
    rw [f0]
    cases its with
    | nil => simp
    | cons a r' => rw [if_neg (by simp)]
  refine wpAny_binaryOp_repeat_ref (T := "list") (U := "int") (by decide) ⟨_, e, rfl⟩ (fun s' => typeIs_int s' k t) noFill_list_mul F.fills_int_mul F.slot_int_rmul repeat_list F.slot_int_index.lookup
    (call_meets F.slot_int_rmul (typeIs_int s k t) F.entry_int_rmul (F.args_int_rmul_2 _ _) (int___rmul___int_list k t l its.toArray n)
      ⟨e, rfl, ⟨_, e, rfl⟩, call_meets F.slot_list_mul ⟨_, e, rfl⟩ F.entry_list_mul (F.args_list_mul_2 _ _) (AutoListH.list___mul___list_int_3 l its.toArray n k t hfit hcap hlong) ⟨e, ?_⟩⟩)
  rw [hnew]
  exact ⟨.ref _, _, I.lnew (t' := s.toks) (r.rep k.toNat) (by rw [PyProof.Rows.lm_len_rep_flat, Nat.mul_comm]; exact hz), rfl, q _ I.fresh⟩
/-! a tuple times 1 is itself -/
theorem tuple_mul1 (l : Addr) (items : Array Value) (n : Nat) (dd : Option Addr) (sl : Array (Option Value)) (u : Tok) :
    Meets (Builtin.«tuple.__mul__» ⟨[.ref l, .int 1 u], []⟩) (fun _ R s => s.heap.get? l = some { cls := .type "tuple", dict := dd, data := .seq items n, slots := sl } ∧
      R (.ok (.ret (Value.ref l))) s) :=
  .of_wp fun prog w A R s h => by
    obtain ⟨hp, g, d, tk, os⟩ := s
    obtain ⟨hl, h⟩ := h
    have f1 := AutoSeq1.idx_int
    wp_walk using wpAny_loadPart' hl
    repeat (first
      | (refine wpAny_ite_true (by simp) ?_; wp_walk using wpAny_loadPart' hl)
      | (refine wpAny_ite_false (by simp) ?_; wp_walk using wpAny_loadPart' hl))
    exact ⟨_, rfl, h⟩
def rRep1 (K : PySem.W.Frag) : R2 := fun x y H Q => ∃ l xs, x = .ref l ∧ y = .int 1 ∧ SqT K H l xs ∧ Q (.ref l) H
theorem op_rep1 : OpR X (binaryOp .Mult) (rRep1 X.K) := by
  intro pins s σ H x y v u Q I rx ry h
  obtain ⟨l, xs, rfl, rfl, hT, q⟩ := h
  cases rx
  obtain ⟨t, rfl⟩ := ry
  obtain ⟨its, r, ⟨⟨cls, dd, data, sl⟩, ho, hc, n, hd⟩, hs⟩ := I.tuple hT
  simp only at hc hd
  subst hc hd
  refine wpAny_binaryOp_repeat_ref (T := "tuple") (U := "int") (by decide) ⟨_, ho, rfl⟩ (fun s' => typeIs_int s' 1 t) noFill_tuple_mul F.fills_int_mul F.slot_int_rmul repeat_tuple F.slot_int_index.lookup
    (call_meets F.slot_int_rmul (typeIs_int s 1 t) F.entry_int_rmul (F.args_int_rmul_2 _ _) (int_rmul_tuple 1 t l its.toArray n dd sl)
      ⟨ho, rfl, ⟨_, ho, rfl⟩, call_meets F.slot_tuple_mul ⟨_, ho, rfl⟩ F.entry_tuple_mul (F.args_tuple_mul_2 _ _) (tuple_mul1 l its.toArray n dd sl t) ⟨ho, ?_⟩⟩)
  exact ⟨.ref l, H, I, rfl, q⟩
theorem sv_mul : Serves2 X (fun x y H Q => rI CMul (fun i j => .int (i * j)) x y H Q ∨ rI CMulW (fun i j => .int (i * j)) x y H Q ∨
    (∃ l k xs, x = V.ref l ∧ y = .int k ∧ Rd H l (.lst xs) ∧ -(2 ^ 63) ≤ k ∧ k < 2 ^ 63 ∧ xs.length * k.toNat ≤ sizeLine ∧ ∀ p, H p = none → Q (.ref p) (upd H p (.lst (List.replicate k.toNat xs).flatten))) ∨ rRepT X.K x y H Q ∨ rRep1 X.K x y H Q) dMul := by
  intro W Z F ρ σ H H0 x y d e rv Q S hd tx ty hf k
  cases d with
  | int i =>
    cases e with
    | int j =>
      simp only [dMul] at hf
      split at hf
      · rename_i h
        cases hf
        simp only [mulOk, Bool.or_eq_true, decide_eq_true_eq] at h
        rcases h with (h | h) | h
        · exact .inl ⟨i, j, tx.int, ty.int, .inl h, k.dat S (.int _)⟩
        · exact .inl ⟨i, j, tx.int, ty.int, .inr h, k.dat S (.int _)⟩
        · exact .inr (.inl ⟨i, j, tx.int, ty.int, h, k.dat S (.int _)⟩)
      · cases hf
    | _ => cases hf
  | list i =>
    cases e with
    | int j =>
      simp only [dMul] at hf
      split at hf
      · rename_i h
        cases hf
        obtain ⟨a, xs, rfl, ra, za, pa⟩ := tx.list
        have z : xs.length * j.toNat ≤ sizeLine := by rw [pa.length, line_eq]; exact h.2.2
        exact .inr (.inr (.inl ⟨a, j, xs, rfl, ty.int, ra, by omega, by omega, z, k.lst S (pa.rep _) (by rw [rep_len]; exact z) hd⟩))
      · cases hf
    | _ => cases hf
  | tuple i =>
    cases e with
    | int j =>
      simp only [dMul] at hf
      split at hf
      · rename_i h
        cases hf
        obtain ⟨a, xs, rfl, ra, za, pa, wa⟩ := tx.tuple
        have z : xs.length * j.toNat ≤ sizeLine := by
          rw [pa.length, line_eq]
          have h3 : i.length * j.toNat ≤ 1000 * 1000 := Nat.mul_le_mul h.2.2.2 (by omega)
          exact Nat.le_trans h3 (by decide)
        refine .inr (.inr (.inr (.inl ⟨a, j, xs, rfl, ty.int, ra, fun e => ?_, h.2.1, h.2.2.1, by rw [pa.length]; exact h.2.2.2, k.tup S (pa.rep _) (by rw [rep_len]; exact z)⟩)))
        subst e
        cases pa
        exact h.1 rfl
      · split at hf
        · rename_i h1
          subst h1
          cases hf
          obtain ⟨a, xs, rfl, ra, za, pa, wa⟩ := tx.tuple
          exact .inr (.inr (.inr (.inr ⟨a, xs, rfl, ty.int, ra, k.dat S wa⟩)))
        · cases hf
    | _ => cases hf
  | _ => cases hf
theorem q_mul {a b : Expr} {ma mb : ME} {pos : Pos} (ha : QE X W a ma) (hb : QE X W b mb) : QE X W (.BinOp a .Mult b pos) (m2 ma mb dMul) :=
  q_2 (pe_op (op_mul.or (op_mulW.or (op_repR.or (op_repT.or op_rep1)))) ha hb) sv_mul
theorem sv_div : Serves2 X (fun x y H Q => rI CDiv (fun i j => .int (i / j)) x y H Q ∨ rI CDivW (fun i j => .int (i / j)) x y H Q ∨ rI CDivN (fun i j => .int (i.fdiv j)) x y H Q) dDiv := by
  intro W Z F ρ σ H H0 x y d e rv Q S hd tx ty hf k
  cases d with
  | int i =>
    cases e with
    | int j =>
      simp only [dDiv] at hf
      split at hf
      · rename_i h
        split at hf
        · rename_i h2
          cases hf
          rcases h2 with h2 | h2
          · exact .inl ⟨i, j, tx.int, ty.int, ⟨h, h2⟩, k.dat S (.int _)⟩
          · exact .inr (.inl ⟨i, j, tx.int, ty.int, ⟨h, h2⟩, k.dat S (.int _)⟩)
        · cases hf
      · split at hf
        · rename_i h2
          cases hf
          exact .inr (.inr ⟨i, j, tx.int, ty.int, h2, k.dat S (.int _)⟩)
        · cases hf
    | _ => cases hf
  | _ => cases hf
theorem q_div {a b : Expr} {ma mb : ME} {pos : Pos} (ha : QE X W a ma) (hb : QE X W b mb) : QE X W (.BinOp a .FloorDiv b pos) (m2 ma mb dDiv) :=
  q_2 (pe_op (op_fdiv.or (op_fdivW.or op_fdivN)) ha hb) sv_div
theorem sv_mod : Serves2 X (fun x y H Q => rI (fun _ j => 0 < j) (fun i j => .int (i % j)) x y H Q ∨ rI (fun _ j => j ≠ 0) (fun i j => .int (i.fmod j)) x y H Q) dMod := by
  intro W Z F ρ σ H H0 x y d e rv Q S hd tx ty hf k
  cases d with
  | int i =>
    cases e with
    | int j =>
      simp only [dMod] at hf
      split at hf
      · rename_i h
        cases hf
        exact .inl ⟨i, j, tx.int, ty.int, h, k.dat S (.int _)⟩
      · split at hf
        · rename_i h2
          cases hf
          exact .inr ⟨i, j, tx.int, ty.int, h2, k.dat S (.int _)⟩
        · cases hf
    | _ => cases hf
  | _ => cases hf
theorem q_mod {a b : Expr} {ma mb : ME} {pos : Pos} (ha : QE X W a ma) (hb : QE X W b mb) : QE X W (.BinOp a .Mod b pos) (m2 ma mb dMod) := q_2 (pe_op (op_mod.or op_modN) ha hb) sv_mod
theorem sv_pow : Serves2 X (rI CPow fun i j => .int (i ^ j.toNat)) dPow := by
  intro W Z F ρ σ H H0 x y d e rv Q S hd tx ty hf k
  cases d with
  | int i =>
    cases e with
    | int j =>
      simp only [dPow] at hf
      split at hf
      · rename_i h
        cases hf
        exact ⟨i, j, tx.int, ty.int, h, k.dat S (.int _)⟩
      · cases hf
    | _ => cases hf
  | _ => cases hf
theorem q_pow {a b : Expr} {ma mb : ME} {pos : Pos} (ha : QE X W a ma) (hb : QE X W b mb) : QE X W (.BinOp a .Pow b pos) (m2 ma mb dPow) := q_2 (pe_op op_pow ha hb) sv_pow
theorem sv_neg : Serves1 X (rU fun i => .int (-i)) dNeg := by
  intro W Z F ρ σ H H0 x d rv Q S hd tx hf k
  cases d with
  | int i => cases hf; exact ⟨i, tx.int, k.dat S (.int _)⟩
  | _ => cases hf
theorem q_neg {a : Expr} {ma : ME} {pos : Pos} (ha : QE X W a ma) : QE X W (.UnaryOp .USub a pos) (m1 ma dNeg) := q_1 (pe_un un_neg ha) sv_neg

/-! ### comparisons of data -/
theorem op_dd {op : CmpOp} {g : D → D → Bool} {c : D → D → Bool}
    (rule : ∀ {prog : Program} {w : World} {A : Around} {E : Value → Shared → Prop} {s : Shared} {a b : Value} {da db : D} {as bs : List Addr} {Q : Value → Shared → Prop}, Reads s.heap a da as → Reads s.heap b db bs → c da db = true → A.units + 64 < cLine → Q (.bool (g da db)) s → wpAny (model prog w) A (compareOp op a b) Q E s)
    (hu : X.A.units + 64 < cLine) : OpR X (compareOp op) (fun x y H Q => ∃ d e, Dp X.K H x d ∧ Dp X.K H y e ∧ c d e = true ∧ Q (.bl (g d e)) H) := by
  intro pins s σ H x y v u Q I rx ry h
  obtain ⟨d, e, hd, he, hc, q⟩ := h
  obtain ⟨as, r1⟩ := Dp.reads I d x v hd rx
  obtain ⟨bs, r2⟩ := Dp.reads I e y u he ry
  exact rule r1 r2 hc hu ⟨.bl _, H, I, rfl, q⟩
theorem eqOk_of {d e : D} (h : eqOk d e = true) : d.plain = true ∧ e.plain = true ∧ min d.depth e.depth ≤ 64 := by
  simp only [eqOk, Bool.and_eq_true, decide_eq_true_eq] at h
  exact ⟨h.1.1, h.1.2, h.2⟩
theorem op_eqP (hu : X.A.units + 64 < cLine) : OpR X (compareOp .Eq) (fun x y H Q => ∃ d e, Dp X.K H x d ∧ Dp X.K H y e ∧ eqOk d e = true ∧ Q (.bl (PyData.eqv d e)) H) :=
  op_dd (g := PyData.eqv) (fun ra rb hc hu q => by
    obtain ⟨h1, h2, h3⟩ := eqOk_of hc
    exact PySem.SeqAt.eq_plain ra rb h1 h2 (by omega) q) hu
theorem op_neP (hu : X.A.units + 64 < cLine) : OpR X (compareOp .NotEq) (fun x y H Q => ∃ d e, Dp X.K H x d ∧ Dp X.K H y e ∧ eqOk d e = true ∧ Q (.bl (!PyData.eqv d e)) H) :=
  op_dd (g := fun a b => !PyData.eqv a b) (fun ra rb hc hu q => by
    obtain ⟨h1, h2, h3⟩ := eqOk_of hc
    exact PySem.SeqAt.ne_plain ra rb h1 h2 (by omega) q) hu
theorem ltOk_of {d e : D} (h : ltOk d e = true) : PySem.W.alike d e = true ∧ d ≠ .none ∧ min d.depth e.depth ≤ 64 := by
  simp only [ltOk, Bool.and_eq_true, decide_eq_true_eq] at h
  refine ⟨h.1.1.2, fun z => ?_, h.1.2⟩
  subst z
  exact absurd h.2 (by decide)
theorem ltOk_plain {d e : D} (h : ltOk d e = true) : d.plain = true ∧ e.plain = true := by
  simp only [ltOk, Bool.and_eq_true, decide_eq_true_eq] at h
  exact h.1.1.1
theorem op_ltP (hu : X.A.units + 64 < cLine) : OpR X (compareOp .Lt) (fun x y H Q => ∃ d e, Dp X.K H x d ∧ Dp X.K H y e ∧ ltOk d e = true ∧ Q (.bl (PySem.W.dataLt d e)) H) :=
  op_dd (g := PySem.W.dataLt) (fun ra rb hc hu q => by
    obtain ⟨h1, h2, h3⟩ := ltOk_of hc
    exact PySem.W.lt_data ra rb h1 h2 (by omega) q) hu
theorem op_gtP (hu : X.A.units + 64 < cLine) : OpR X (compareOp .Gt) (fun x y H Q => ∃ d e, Dp X.K H x d ∧ Dp X.K H y e ∧ ltOk d e = true ∧ Q (.bl (PySem.W.dataLt e d)) H) :=
  op_dd (g := fun d e => PySem.W.dataLt e d) (fun ra rb hc hu q => by
    obtain ⟨h1, h2, h3⟩ := ltOk_of hc
    exact PySem.W.gt_data ra rb h1 h2 (by omega) q) hu
theorem op_leP (hu : X.A.units + 64 < cLine) : OpR X (compareOp .LtE) (fun x y H Q => ∃ d e, Dp X.K H x d ∧ Dp X.K H y e ∧ ltOk d e = true ∧ Q (.bl (!PySem.W.dataLt e d)) H) :=
  op_dd (g := fun d e => !PySem.W.dataLt e d) (fun ra rb hc hu q => by
    obtain ⟨h1, h2, h3⟩ := ltOk_of hc
    exact PySem.W.le_data ra rb h1 h2 (by omega) q) hu
theorem op_geP (hu : X.A.units + 64 < cLine) : OpR X (compareOp .GtE) (fun x y H Q => ∃ d e, Dp X.K H x d ∧ Dp X.K H y e ∧ ltOk d e = true ∧ Q (.bl (!PySem.W.dataLt d e)) H) :=
  op_dd (g := fun d e => !PySem.W.dataLt d e) (fun ra rb hc hu q => by
    obtain ⟨h1, h2, h3⟩ := ltOk_of hc
    exact PySem.W.ge_data ra rb h1 h2 (by omega) q) hu
theorem sv_dd {c g : D → D → Bool} (hcp : ∀ {d e : D}, c d e = true → d.plain = true ∧ e.plain = true) : Serves2 X (fun x y H Q => ∃ d e, Dp X.K H x d ∧ Dp X.K H y e ∧ c d e = true ∧ Q (.bl (g d e)) H) (fun d e => if c d e then some (.dat (.bool (g d e))) else none) := by
  intro W Z F ρ σ H H0 x y d e rv Q S hd tx ty hf k
  dsimp only at hf
  split at hf
  · rename_i h
    cases hf
    exact ⟨d, e, tx.dp (hcp h).1, ty.dp (hcp h).2, h, k.dat S (.bl _)⟩
  · cases hf
omit [Tab] [Zok] in
/-- «in» over a list or tuple of plain data -/
def inOk (d : D) (xs : List D) : Bool := d.plain && PyData.plainAll xs && decide (min (PyData.depthAll xs) d.depth ≤ 60)
theorem inOk_of {d : D} {xs : List D} (h : inOk d xs = true) : d.plain = true ∧ PyData.plainAll xs = true ∧ min (PyData.depthAll xs) d.depth ≤ 60 := by
  simp only [inOk, Bool.and_eq_true, decide_eq_true_eq] at h
  exact ⟨h.1.1, h.1.2, h.2⟩
omit [Tab] [Zok] in
def rInD (X : Cx) (neg : Bool) : R2 := fun x y H Q => ∃ d e xs, Dp X.K H x d ∧ Dp X.K H y e ∧ (e = .list xs ∨ e = .tuple xs) ∧ inOk d xs = true ∧ Q (.bl (if neg then !inAny d xs else inAny d xs)) H
theorem op_inP (hu : X.A.units + 64 < cLine) : OpR X (compareOp .In) (rInD X false) := by
  intro pins s σ H x y v u Q I rx ry h
  obtain ⟨d, e, xs, hd, he, hx, hc, q⟩ := h
  obtain ⟨as, r1⟩ := Dp.reads I d x v hd rx
  obtain ⟨bs, r2⟩ := Dp.reads I e y u he ry
  obtain ⟨h1, h2, h3⟩ := inOk_of hc
  rcases hx with rfl | rfl
  · exact PySem.SeqAt.in_list_data r2 r1 h2 h1 (by omega) ⟨.bl _, H, I, rfl, q⟩
  · exact PySem.SeqAt.in_tuple_data r2 r1 h2 h1 (by omega) ⟨.bl _, H, I, rfl, q⟩
theorem op_notInP (hu : X.A.units + 64 < cLine) : OpR X (compareOp .NotIn) (rInD X true) := by
  intro pins s σ H x y v u Q I rx ry h
  obtain ⟨d, e, xs, hd, he, hx, hc, q⟩ := h
  obtain ⟨as, r1⟩ := Dp.reads I d x v hd rx
  obtain ⟨bs, r2⟩ := Dp.reads I e y u he ry
  obtain ⟨h1, h2, h3⟩ := inOk_of hc
  rcases hx with rfl | rfl
  · exact PySem.SeqAt.notIn_list_data r2 r1 h2 h1 (by omega) ⟨.bl _, H, I, rfl, q⟩
  · exact PySem.SeqAt.notIn_tuple_data r2 r1 h2 h1 (by omega) ⟨.bl _, H, I, rfl, q⟩
omit [Tab] [Zok] in
def dInB (neg : Bool) (d e : D) : Option RV := match e with
  | .list xs => if inOk d xs then some (.dat (.bool (if neg then !inAny d xs else inAny d xs))) else none
  | .tuple xs => if inOk d xs then some (.dat (.bool (if neg then !inAny d xs else inAny d xs))) else none
  | .str y => match d with
    | .str x => some (.dat (.bool (if neg then !(!(Builtin.Str.occurrences y x 0 y.length 1).isEmpty) else !(Builtin.Str.occurrences y x 0 y.length 1).isEmpty)))
    | _ => none
  | _ => none
theorem sv_in : Serves2 X (fun x y H Q => rInD X false x y H Q ∨ (∃ i j, x = V.str i ∧ y = V.str j ∧ Q (.bl (!(Builtin.Str.occurrences j i 0 j.length 1).isEmpty)) H)) (dInB false) := by
  intro W Z F ρ σ H H0 x y d e rv Q S hd tx ty hf k
  cases e with
  | list xs =>
    simp only [dInB] at hf
    split at hf
    · rename_i h; cases hf; exact .inl ⟨d, _, xs, tx.dp (inOk_of h).1, ty.dp (by simpa only [PyData.plain] using (inOk_of h).2.1), .inl rfl, h, k.dat S (.bl _)⟩
    · cases hf
  | tuple xs =>
    simp only [dInB] at hf
    split at hf
    · rename_i h; cases hf; exact .inl ⟨d, _, xs, tx.dp (inOk_of h).1, ty.dp (by simpa only [PyData.plain] using (inOk_of h).2.1), .inr rfl, h, k.dat S (.bl _)⟩
    · cases hf
  | str z =>
    cases d with
    | str y => cases hf; exact .inr ⟨_, _, tx.str, ty.str, k.dat S (.bl _)⟩
    | _ => cases hf
  | _ => cases hf
theorem sv_notIn : Serves2 X (fun x y H Q => rInD X true x y H Q ∨ (∃ i j, x = V.str i ∧ y = V.str j ∧ Q (.bl (!(!(Builtin.Str.occurrences j i 0 j.length 1).isEmpty))) H)) (dInB true) := by
  intro W Z F ρ σ H H0 x y d e rv Q S hd tx ty hf k
  cases e with
  | list xs =>
    simp only [dInB] at hf
    split at hf
    · rename_i h; cases hf; exact .inl ⟨d, _, xs, tx.dp (inOk_of h).1, ty.dp (by simpa only [PyData.plain] using (inOk_of h).2.1), .inl rfl, h, k.dat S (.bl _)⟩
    · cases hf
  | tuple xs =>
    simp only [dInB] at hf
    split at hf
    · rename_i h; cases hf; exact .inl ⟨d, _, xs, tx.dp (inOk_of h).1, ty.dp (by simpa only [PyData.plain] using (inOk_of h).2.1), .inr rfl, h, k.dat S (.bl _)⟩
    · cases hf
  | str z =>
    cases d with
    | str y => cases hf; exact .inr ⟨_, _, tx.str, ty.str, k.dat S (.bl _)⟩
    | _ => cases hf
  | _ => cases hf
omit [Tab] [Zok] in
/-- is None, is not None; is of truth values -/
def isNone : D → Bool
  | .none => true
  | _ => false
omit [Tab] [Zok] in
def dIs (neg : Bool) (d e : D) : Option RV := match e with
  | .none => some (.dat (.bool (if neg then !isNone d else isNone d)))
  | .bool b => match d with
    | .bool a => some (.dat (.bool (if neg then !decide (a = b) else decide (a = b))))
    | _ => none
  | _ => none
theorem isN_of {K : PySem.W.Frag} {F : Forb} {H : Hp} {v : V} {d : D} (t : Top K F H v d) : decide (v = .non) = isNone d := by
  rcases t with r | ⟨a, ds, xs, rfl, rfl, _⟩
  · cases r <;> rfl
  · rfl
theorem sv_is : Serves2 X (fun x y H Q => (y = .non ∧ Q (.bl (decide (x = .non))) H) ∨ rIsB x y H Q) (dIs false) := by
  intro W Z F ρ σ H H0 x y d e rv Q S hd tx ty hf k
  cases e with
  | none =>
    cases hf
    refine .inl ⟨ty.none, ?_⟩
    rw [isN_of tx]
    exact k.dat S (.bl _)
  | bool b =>
    cases d with
    | bool a => cases hf; exact .inr ⟨a, b, tx.bool, ty.bool, k.dat S (.bl _)⟩
    | _ => cases hf
  | _ => cases hf
theorem sv_isNot : Serves2 X (fun x y H Q => (y = .non ∧ Q (.bl (!decide (x = .non))) H) ∨ rNotB x y H Q) (dIs true) := by
  intro W Z F ρ σ H H0 x y d e rv Q S hd tx ty hf k
  cases e with
  | none =>
    cases hf
    refine .inl ⟨ty.none, ?_⟩
    rw [isN_of tx]
    exact k.dat S (.bl _)
  | bool b =>
    cases d with
    | bool a => cases hf; exact .inr ⟨a, b, tx.bool, ty.bool, k.dat S (.bl _)⟩
    | _ => cases hf
  | _ => cases hf

/-! ### a comparison by its operator: what serves it -/
structure CmpS (X : Cx) (op : CmpOp) (f : D → D → Option RV) : Prop where
  ex : ∃ r, OpR X (compareOp op) r ∧ Serves2 X r f
theorem cmp_eq (hu : X.A.units + 64 < cLine) : CmpS X .Eq dEq := ⟨_, op_eqP hu, sv_dd (fun h => ⟨(eqOk_of h).1, (eqOk_of h).2.1⟩)⟩
theorem cmp_ne (hu : X.A.units + 64 < cLine) : CmpS X .NotEq dNe := ⟨_, op_neP hu, sv_dd (fun h => ⟨(eqOk_of h).1, (eqOk_of h).2.1⟩) (g := fun a b => !PyData.eqv a b)⟩
theorem cmp_lt (hu : X.A.units + 64 < cLine) : CmpS X .Lt dLt := ⟨_, op_ltP hu, sv_dd ltOk_plain⟩
theorem cmp_gt (hu : X.A.units + 64 < cLine) : CmpS X .Gt dGt := ⟨_, op_gtP hu, sv_dd ltOk_plain (g := fun d e => PySem.W.dataLt e d)⟩
theorem cmp_le (hu : X.A.units + 64 < cLine) : CmpS X .LtE dLe := ⟨_, op_leP hu, sv_dd ltOk_plain (g := fun d e => !PySem.W.dataLt e d)⟩
theorem cmp_ge (hu : X.A.units + 64 < cLine) : CmpS X .GtE dGe := ⟨_, op_geP hu, sv_dd ltOk_plain (g := fun d e => !PySem.W.dataLt d e)⟩
theorem cmp_in (hu : X.A.units + 64 < cLine) : CmpS X .In (dInB false) := ⟨_, (op_inP hu).or op_in_str, sv_in⟩
theorem cmp_notIn (hu : X.A.units + 64 < cLine) : CmpS X .NotIn (dInB true) := ⟨_, (op_notInP hu).or op_notin_str, sv_notIn⟩
theorem cmp_is : CmpS X .Is (dIs false) := ⟨_, op_isN.or op_isBl, sv_is⟩
theorem cmp_isNot : CmpS X .IsNot (dIs true) := ⟨_, op_notN.or op_notBl, sv_isNot⟩
theorem q_cmp {op : CmpOp} {f : D → D → Option RV} {a b : Expr} {ma mb : ME} {pos : Pos} (c : CmpS X op f) (ha : QE X W a ma) (hb : QE X W b mb) (hm : behindInMarks op b = false) : QE X W (.Compare a [op] [b] pos) (m2 ma mb f) := by
  obtain ⟨r, h1, h2⟩ := c.ex
  exact q_2 (pe_cmpR h1 ha hb hm) h2

/-! ### tests -/
omit [Tab] [Zok] in
def truthy (d : D) : Option Bool := match d with
  | .none => some false
  | .bool b => some b
  | .int i => some (i != 0)
  | .str x => if x.length ≤ LINE then some ((x.length : Int) != 0) else none
  | .list xs => some (!xs.isEmpty)
  | .tuple xs => some (!xs.isEmpty)
  | .dict _ => none
omit [Tab] [Zok] in
def bT (a : ME) : MB := fun ρ => (a ρ).bind fun x ρ1 => match x.get ρ1 with
  | some d => match truthy d with
    | some b => .ok b ρ1
    | none => .no
  | none => .no
omit [Tab] [Zok] in
def bNot (a : MB) : MB := fun ρ => (a ρ).bind fun b ρ1 => .ok (!b) ρ1
omit [Tab] [Zok] in
def bAnd (a b : MB) : MB := fun ρ => (a ρ).bind fun c ρ1 => if c then b ρ1 else .ok false ρ1
omit [Tab] [Zok] in
def bOr (a b : MB) : MB := fun ρ => (a ρ).bind fun c ρ1 => if c then .ok true ρ1 else b ρ1
theorem empty_of {K : PySem.W.Frag} {F : Forb} {H : Hp} {xs : List V} {ds : List D} (r : RepAll K F H xs ds) : xs.isEmpty = ds.isEmpty := by
  cases r <;> rfl
theorem Top.tru {K : PySem.W.Frag} {F : Forb} {H : Hp} {v : V} {d : D} {b : Bool} (t : Top K F H v d) (h : truthy d = some b) : TruV K v H b := by
  cases d with
  | none => cases h; rw [t.none]; rfl
  | bool c => cases h; rw [t.bool]; rfl
  | int i => cases h; rw [t.int]; rfl
  | str x =>
    simp only [truthy] at h
    split at h
    · rename_i hx
      cases h
      rw [t.str]
      exact ⟨by rw [line_eq]; exact hx, rfl⟩
    · cases h
  | list xs =>
    cases h
    obtain ⟨a, ys, rfl, ra, za, pa⟩ := t.list
    exact .inl ⟨ys, .inl ra, by rw [empty_of pa]⟩
  | tuple xs =>
    cases h
    obtain ⟨a, ys, rfl, ra, za, pa, _⟩ := t.tuple
    exact .inr (.inl ⟨ys, ra, by rw [empty_of pa]⟩)
  | dict _ => cases h
theorem qt_truth {a : Expr} {m : ME} (ha : QE X W a m) (he : ∀ whole, isTrue a X.env whole = (do let v ← whole; standAt a.pos; holding [v] (PySem.truthy v)) := by intro _; rfl) : QT X W a (bT m) := by
  refine PT.of (pt_truth ha he) fun σ H Q hq => ?_
  obtain ⟨Z, F, ρ, S, k⟩ := hq
  refine ⟨Z, F, ρ, S, Post.bind k fun x ρ1 H1 F1 e1 S1 st1 k1 v1 vo1 nw1 => ?_⟩
  cases g1 : x.get ρ1 with
  | none => rw [g1] at k1; exact k1.elim
  | some d =>
    cases g3 : truthy d with
    | none => rw [g1] at k1; simp only [g3] at k1; exact k1.elim
    | some b =>
      rw [g1] at k1
      simp only [g3] at k1
      exact ⟨b, (vo1.top S1 g1).tru g3, k1 H1 F1 S1 .refl⟩
theorem qt_cmp {op : CmpOp} {f : D → D → Option RV} {a b : Expr} {ma mb : ME} {pos : Pos} (c : CmpS X op f) (ha : QE X W a ma) (hb : QE X W b mb) (hm : behindInMarks op b = false) (hf : ∀ d e rv, f d e = some rv → ∃ k, rv = .dat (.bool k)) : QT X W (.Compare a [op] [b] pos) (bT (m2 ma mb f)) := by
  obtain ⟨r, h1, h2⟩ := c.ex
  refine PT.of (pt_cmpR h1 ha hb hm) fun σ H Q hq => ?_
  obtain ⟨Z, F, ρ, S, k⟩ := hq
  unfold bT m2 at k
  refine ⟨Z, F, ρ, S, ?_⟩
  cases ea : ma ρ with
  | no => rw [ea] at k; exact k
  | exc e ρ' => rw [ea] at k; exact k
  | ok x ρ1 =>
    rw [ea] at k
    intro H1 F1 S1 st1 v1 vo1 nw1
    refine ⟨Z, F1, ρ1, S1, ?_⟩
    change Post X W Z σ F ρ H _ (((mb ρ1).bind _).bind _) at k
    have k' := Post.later k st1
    cases eb : mb ρ1 with
    | no => rw [eb] at k'; exact k'
    | exc e ρ' => rw [eb] at k'; exact k'
    | ok y ρ2 =>
      rw [eb] at k'
      intro H2 F2 S2 st2 v2 vo2 nw2
      change Post X W Z σ F1 ρ1 H1 _ (Out.bind (match x.get ρ2, y.get ρ2 with
        | some d, some e => match f d e with
          | some r => .ok r ρ2
          | none => .no
        | _, _ => .no) _) at k'
      have k2 := Post.later k' st2
      have vo1' := vo1.step st2
      cases g1 : x.get ρ2 with
      | none => rw [g1] at k2; exact k2.elim
      | some d =>
        cases g2 : y.get ρ2 with
        | none => rw [g1, g2] at k2; exact k2.elim
        | some d' =>
          cases g3 : f d d' with
          | none => rw [g1, g2] at k2; simp only [g3] at k2; exact k2.elim
          | some rv =>
            rw [g1, g2] at k2
            simp only [g3] at k2
            obtain ⟨kb, rfl⟩ := hf _ _ _ g3
            refine h2 W Z F2 ρ2 σ H2 H2 v1 v2 d d' _ _ S2 (fun a z => z) (vo1'.top S2 g1) (vo2.top S2 g2) g3 ?_
            intro H3 F3 S3 st3 v3 vo3 _
            have hv : v3 = .bl kb := by
              cases (show Rep X.K F3 H3 v3 (.bool kb) from vo3)
              rfl
            subst hv
            refine ⟨kb, rfl, ?_⟩
            exact k2 H3 F3 S3 st3
theorem bool_eq : ∀ d e rv, dEq d e = some rv → ∃ k, rv = .dat (.bool k) := fun d e rv h => by
  unfold dEq at h; split at h <;> cases h; exact ⟨_, rfl⟩
theorem bool_ne : ∀ d e rv, dNe d e = some rv → ∃ k, rv = .dat (.bool k) := fun d e rv h => by
  unfold dNe at h; split at h <;> cases h; exact ⟨_, rfl⟩
theorem bool_lt : ∀ d e rv, dLt d e = some rv → ∃ k, rv = .dat (.bool k) := fun d e rv h => by
  unfold dLt at h; split at h <;> cases h; exact ⟨_, rfl⟩
theorem bool_gt : ∀ d e rv, dGt d e = some rv → ∃ k, rv = .dat (.bool k) := fun d e rv h => by
  unfold dGt at h; split at h <;> cases h; exact ⟨_, rfl⟩
theorem bool_le : ∀ d e rv, dLe d e = some rv → ∃ k, rv = .dat (.bool k) := fun d e rv h => by
  unfold dLe at h; split at h <;> cases h; exact ⟨_, rfl⟩
theorem bool_ge : ∀ d e rv, dGe d e = some rv → ∃ k, rv = .dat (.bool k) := fun d e rv h => by
  unfold dGe at h; split at h <;> cases h; exact ⟨_, rfl⟩
theorem bool_in (neg : Bool) : ∀ d e rv, dInB neg d e = some rv → ∃ k, rv = .dat (.bool k) := fun d e rv h => by
  cases e with
  | list xs => simp only [dInB] at h; split at h <;> cases h; exact ⟨_, rfl⟩
  | tuple xs => simp only [dInB] at h; split at h <;> cases h; exact ⟨_, rfl⟩
  | str y => cases d <;> first | (cases h; exact ⟨_, rfl⟩) | cases h
  | _ => cases h
theorem bool_is (neg : Bool) : ∀ d e rv, dIs neg d e = some rv → ∃ k, rv = .dat (.bool k) := fun d e rv h => by
  cases e with
  | none => cases h; exact ⟨_, rfl⟩
  | bool y => cases d <;> first | (cases h; exact ⟨_, rfl⟩) | cases h
  | _ => cases h
theorem qt_not {a : Expr} {m : MB} {pos : Pos} (ha : QT X W a m) : QT X W (.UnaryOp .Not a pos) (bNot m) := by
  refine PT.of (pt_not ha) fun σ H Q hq => ?_
  obtain ⟨Z, F, ρ, S, k⟩ := hq
  exact ⟨Z, F, ρ, S, Post.bind k fun b ρ1 H1 F1 e1 S1 st1 k1 => k1 H1 F1 S1 .refl⟩
abbrev QW (X : Cx) (W : WX) (e : Expr) (m : MB) : Prop := PW X e (RT X W m)
theorem PW.of {e : Expr} {t u : TT} (h : PW X e t) (i : ∀ σ H Q, u σ H Q → t σ H Q) : PW X e u := ⟨fun wh pins s σ H Q I hw => h.run wh pins s σ H Q I (i _ _ _ hw)⟩
theorem qw_and1 {a : Expr} {m : MB} {pos : Pos} (ha : QT X W a m) : QW X W (.BoolOp .And [a] pos) m := pw_and1 ha
theorem qw_or1 {a : Expr} {m : MB} {pos : Pos} (ha : QT X W a m) : QW X W (.BoolOp .Or [a] pos) m := pw_or1 ha
theorem qw_and {a b : Expr} {rest : List Expr} {m n : MB} {pos : Pos} (ha : QT X W a m) (hb : QW X W (.BoolOp .And (b :: rest) pos) n) : QW X W (.BoolOp .And (a :: b :: rest) pos) (bAnd m n) := by
  refine PW.of (pw_and ha hb) fun σ H Q hq => ?_
  obtain ⟨Z, F, ρ, S, k⟩ := hq
  refine ⟨Z, F, ρ, S, Post.bind k fun b ρ1 H1 F1 e1 S1 st1 k1 => ?_⟩
  cases b with
  | true => exact iteT ⟨Z, F1, ρ1, S1, k1⟩
  | false => exact iteF (k1 H1 F1 S1 .refl)
theorem qw_or {a b : Expr} {rest : List Expr} {m n : MB} {pos : Pos} (ha : QT X W a m) (hb : QW X W (.BoolOp .Or (b :: rest) pos) n) : QW X W (.BoolOp .Or (a :: b :: rest) pos) (bOr m n) := by
  refine PW.of (pw_or ha hb) fun σ H Q hq => ?_
  obtain ⟨Z, F, ρ, S, k⟩ := hq
  refine ⟨Z, F, ρ, S, Post.bind k fun b ρ1 H1 F1 e1 S1 st1 k1 => ?_⟩
  cases b with
  | true => exact iteT (k1 H1 F1 S1 .refl)
  | false => exact iteF ⟨Z, F1, ρ1, S1, k1⟩
omit [Tab] [Zok] in
/-- and, or, not as values: truth values alone -/
def mB (d : D) : Option Bool := match d with
  | .bool b => some b
  | _ => none
omit [Tab] [Zok] in
def mAndV (a b : ME) : ME := fun ρ => (a ρ).bind fun x ρ1 => match x with
  | .dat (.bool c) => if c then b ρ1 else .ok (.dat (.bool false)) ρ1
  | _ => .no
omit [Tab] [Zok] in
def mOrV (a b : ME) : ME := fun ρ => (a ρ).bind fun x ρ1 => match x with
  | .dat (.bool c) => if c then .ok (.dat (.bool true)) ρ1 else b ρ1
  | _ => .no
omit [Tab] [Zok] in
def mNotV (a : ME) : ME := fun ρ => (a ρ).bind fun x ρ1 => match x with
  | .dat (.bool c) => .ok (.dat (.bool (!c))) ρ1
  | _ => .no
theorem q_one {op : PySem.BoolOp} {a : Expr} {m : ME} {pos : Pos} (ha : QE X W a m) : QE X W (.BoolOp op [a] pos) m := pe_one ha
theorem dat_bool {K : PySem.W.Frag} {F : Forb} {H : Hp} {v : V} {b : Bool} (h : Rep K F H v (.bool b)) : v = .bl b := by cases h; rfl
theorem Post.newer {α : Type} {Z : Zone} {F : Forb} {ρ : Env} {σ : St} {H H0 : Hp} {Q : VK} {o : Out RV} (p : Post X W Z σ F ρ H (GE X Z σ H0 Q) o) (hd : ∀ a, H0 a ≠ none → H a ≠ none) : Post X W Z σ F ρ H (GE X Z σ H Q) o :=
  p.imp fun r ρ1 F1 H1 S st g v vo nw => g v vo (nw.back hd)
theorem q_and {a b : Expr} {rest : List Expr} {m n : ME} {pos : Pos} (ha : QE X W a m) (hb : QE X W (.BoolOp .And (b :: rest) pos) n) : QE X W (.BoolOp .And (a :: b :: rest) pos) (mAndV m n) := by
  refine PE.of (pe_and ha hb) fun σ H Q hq => ?_
  obtain ⟨Z, F, ρ, S, k⟩ := hq
  refine ⟨Z, F, ρ, S, Post.bind k fun x ρ1 H1 F1 e1 S1 st1 k1 v1 vo1 nw1 => ?_⟩
  split at k1
  · rename_i c
    refine ⟨c, dat_bool vo1, ?_⟩
    cases c with
    | true => exact iteT ⟨Z, F1, ρ1, S1, Post.newer (α := Unit) k1 st1.dom⟩
    | false => exact iteF (k1.dat S1 (.bl _))
  · exact k1.elim
theorem q_or {a b : Expr} {rest : List Expr} {m n : ME} {pos : Pos} (ha : QE X W a m) (hb : QE X W (.BoolOp .Or (b :: rest) pos) n) : QE X W (.BoolOp .Or (a :: b :: rest) pos) (mOrV m n) := by
  refine PE.of (pe_or ha hb) fun σ H Q hq => ?_
  obtain ⟨Z, F, ρ, S, k⟩ := hq
  refine ⟨Z, F, ρ, S, Post.bind k fun x ρ1 H1 F1 e1 S1 st1 k1 v1 vo1 nw1 => ?_⟩
  split at k1
  · rename_i c
    refine ⟨c, dat_bool vo1, ?_⟩
    cases c with
    | true => exact iteT (k1.dat S1 (.bl _))
    | false => exact iteF ⟨Z, F1, ρ1, S1, Post.newer (α := Unit) k1 st1.dom⟩
  · exact k1.elim
theorem q_not {a : Expr} {m : ME} {pos : Pos} (ha : QE X W a m) : QE X W (.UnaryOp .Not a pos) (mNotV m) := by
  refine PE.of (pe_not ha) fun σ H Q hq => ?_
  obtain ⟨Z, F, ρ, S, k⟩ := hq
  refine ⟨Z, F, ρ, S, Post.bind k fun x ρ1 H1 F1 e1 S1 st1 k1 v1 vo1 nw1 => ?_⟩
  split at k1
  · rename_i c
    exact ⟨c, dat_bool vo1, k1.dat S1 (.bl _)⟩
  · exact k1.elim
omit [Tab] [Zok] in
def mIf (c : MB) (a b : ME) : ME := fun ρ => (c ρ).bind fun t ρ1 => if t then a ρ1 else b ρ1
theorem q_if {c a b : Expr} {t : MB} {m n : ME} {pos : Pos} (hc : QT X W c t) (ha : QE X W a m) (hb : QE X W b n) : QE X W (.IfExp c a b pos) (mIf t m n) := by
  refine PE.of (pe_ifExp hc ha hb) fun σ H Q hq => ?_
  obtain ⟨Z, F, ρ, S, k⟩ := hq
  refine ⟨Z, F, ρ, S, Post.bind k fun t ρ1 H1 F1 e1 S1 st1 k1 => ?_⟩
  cases t with
  | true => exact iteT ⟨Z, F1, ρ1, S1, Post.newer (α := Unit) k1 st1.dom⟩
  | false => exact iteF ⟨Z, F1, ρ1, S1, Post.newer (α := Unit) k1 st1.dom⟩
end
end PD

namespace PD
open PySem PySem.Spec PyProof.Rows L2
/-! ### what is given away -/
def frz : List RV → Option (List D)
  | [] => some []
  | .dat d :: rs => (frz rs).map (d :: ·)
  | .own d :: rs => (frz rs).map (d :: ·)
  | .bor _ :: _ => none
  | .thg _ :: _ => none
section
variable [Tab] [Zok] {X : Cx} {W : WX} {K : PySem.W.Frag} {Z : Zone} {σ : St} {F F1 F' : Forb} {ρ ρ1 : Env} {H H0 H1 : Hp}
theorem Post.bind0 {α β : Type} {G : α → Env → Forb → Hp → Prop} {G' : β → Env → Forb → Hp → Prop} {o : Out α} {f : α → Env → Out β} (p : Post X W Z σ F ρ H G' (o.bind f))
    (h : ∀ a ρ1 H1 F1, o = .ok a ρ1 → SR X.K Z F1 ρ1 σ H1 → Step σ F F1 ρ ρ1 H H1 → Post X W Z σ F ρ H G' (f a ρ1) → G a ρ1 F1 H1) : Post X W Z σ F ρ H G o := by
  cases o with
  | ok a ρ1 => exact fun H1 F1 S st => h a ρ1 H1 F1 rfl S st p
  | exc e ρ' => exact p
  | no => exact p
/-- dropping what was not there at the begin -/
theorem Step.lose (s : Step σ F F1 ρ ρ1 H H1) (al : ∀ a, F a → H a ≠ none) {q : Forb} (hq : ∀ a, q a → H a = none) : Step σ F (fun a => F1 a ∧ ¬ q a) ρ ρ1 H H1 where
  car := ⟨s.car.rd, fun a f => s.car.fr a f.1, s.car.tb⟩
  kp := fun a f => by
    rcases s.kp a f with z | z
    · exact .inl ⟨z, fun y => al a f (hq a y)⟩
    · exact .inr z
  tm := s.tm
  ow := s.ow
  dom := s.dom
  has := s.has
omit [Tab] [Zok] in
/-- the addresses of new lists among values -/
def newAt (vs : List V) (rs : List RV) (a : Addr) : Prop := ∃ (i : Nat) (d : D), rs[i]? = some (.own d) ∧ vs[i]? = some (.ref a)
theorem VsOk.get : ∀ {vs : List V} {rs : List RV} {i : Nat} {r : RV}, VsOk K Z F ρ σ H vs rs → rs[i]? = some r → ∃ v, vs[i]? = some v ∧ VOk K Z F ρ σ H v r
  | _, _, _, _, .nil, e => by simp at e
  | _, _, 0, _, .cons h _, e => by simp at e; subst e; exact ⟨_, rfl, h⟩
  | _, _, i + 1, _, .cons _ t, e => by
    obtain ⟨v, h1, h2⟩ := VsOk.get (i := i) t (by simpa using e)
    exact ⟨v, by simpa using h1, h2⟩
theorem News.get : ∀ {vs : List V} {rs : List RV} {i : Nat} {r : RV} {v : V}, News H vs rs → rs[i]? = some r → vs[i]? = some v → New H v r
  | _, _, _, _, _, .nil, e, _ => by simp at e
  | _, _, 0, _, _, .cons h _, e, e2 => by simp at e e2; subst e e2; exact h
  | _, _, i + 1, _, _, .cons _ t, e, e2 => News.get (i := i) t (by simpa using e) (by simpa using e2)
theorem freeze_go {q : Forb} (c : ∀ a, F' a → F a ∧ ¬ q a) : ∀ {vs : List V} {rs : List RV} {ds : List D}, VsOk K Z F ρ σ H vs rs → (∀ (i : Nat) (d : D) a, rs[i]? = some (.own d) → vs[i]? = some (.ref a) → q a) → frz rs = some ds → RepAll K F' H vs ds
  | _, _, _, .nil, _, e => by cases e; exact .nil
  | _, _, _, .cons (r := r) (rs := rs) h t, hq, e => by
    have hc : Car F F' H H := Car.sub fun a f => (c a f).1
    have ht := fun i d a (e1 : rs[i]? = some (.own d)) e2 => hq (i + 1) d a (by simpa using e1) (by simpa using e2)
    cases r with
    | dat d =>
      cases q2 : frz rs with
      | none => simp [frz, q2] at e
      | some ds =>
        simp only [frz, q2, Option.map_some, Option.some.injEq] at e
        subst e
        exact .cons (Rep.car hc h) (freeze_go c t ht q2)
    | own d =>
      cases q2 : frz rs with
      | none => simp [frz, q2] at e
      | some ds =>
        simp only [frz, q2, Option.map_some, Option.some.injEq] at e
        subst e
        obtain ⟨a, rfl, f, o, m, n⟩ := h
        have hqa : q a := hq 0 d a rfl rfl
        refine .cons ?_ (freeze_go c t ht q2)
        cases d with
        | list es =>
          obtain ⟨xs, e1, z, r⟩ := o
          exact .lst (fun f' => (c a f').2 hqa) e1 z (r.car hc)
        | _ => exact o.elim
    | bor i => simp [frz] at e
    | thg o => simp [frz] at e
theorem freeze {vs : List V} {rs : List RV} {ds : List D} (S : SR K Z F ρ σ H) (h : VsOk K Z F ρ σ H vs rs) (n : News H0 vs rs) (e : frz rs = some ds) :
    SR K Z (fun a => F a ∧ ¬ newAt vs rs a) ρ σ H ∧ RepAll K (fun a => F a ∧ ¬ newAt vs rs a) H vs ds ∧ ∀ a, newAt vs rs a → H0 a = none := by
  refine ⟨S.drop (fun a z => ?_) (fun a z => ?_), freeze_go (q := newAt vs rs) (fun a f => f) h (fun i d a e1 e2 => ⟨i, d, e1, e2⟩) e, fun a z => ?_⟩
  · obtain ⟨i, d, e1, e2⟩ := z
    obtain ⟨v, e3, ok⟩ := h.get e1
    rw [e2] at e3; cases e3
    obtain ⟨b, e4, _, _, m, _⟩ := ok
    cases e4
    exact m
  · obtain ⟨i, d, e1, e2⟩ := z
    obtain ⟨v, e3, ok⟩ := h.get e1
    rw [e2] at e3; cases e3
    obtain ⟨b, e4, _, _, _, o⟩ := ok
    cases e4
    exact o
  · obtain ⟨i, d, e1, e2⟩ := z
    exact n.get e1 e2 a rfl
theorem qa_nil : QA X W [] mNil := by
  refine PA.of pa_nil fun σ H Q hq => ?_
  obtain ⟨Z, F, ρ, S, k⟩ := hq
  exact k H F S .refl [] .nil .nil
theorem qa_cons {e : Expr} {es : List Expr} {m : ME} {n : MEs} (ha : QE X W e m) (hr : QA X W es n) (hs : starEach (e :: es) X.env = (false, eval e X.env) :: starEach es X.env := by rfl) : QA X W (e :: es) (mCons m n) := by
  refine PA.of (pa_cons ha hr hs) fun σ H Q hq => ?_
  obtain ⟨Z, F, ρ, S, k⟩ := hq
  refine ⟨Z, F, ρ, S, Post.bind k fun x ρ1 H1 F1 e1 S1 st1 k1 v1 vo1 nw1 => ⟨Z, F1, ρ1, S1, Post.bind k1 fun xs ρ2 H2 F2 e2 S2 st2 k2 vs vo2 nw2 => ?_⟩⟩
  exact k2 H2 F2 S2 .refl (v1 :: vs) (.cons (vo1.step st2) vo2) (.cons nw1 (nw2.back st1.dom))
omit [Tab] [Zok] in
def mList (a : MEs) : ME := fun ρ => (a ρ).bind fun xs ρ1 => match frz xs with
  | some ds => if ds.length ≤ LINE then .ok (.own (.list ds)) ρ1 else .no
  | none => .no
omit [Tab] [Zok] in
def mTup (a : MEs) : ME := fun ρ => (a ρ).bind fun xs ρ1 => match frz xs with
  | some ds => if ds.length ≤ LINE then .ok (.dat (.tuple ds)) ρ1 else .no
  | none => .no
theorem q_list {es : List Expr} {m : MEs} {pos : Pos} (h : QA X W es m) : QE X W (.List es pos) (mList m) := by
  refine PE.of (pe_lst h) fun σ H Q hq => ?_
  obtain ⟨Z, F, ρ, S, k⟩ := hq
  refine ⟨Z, F, ρ, S, Post.bind0 k fun xs ρ1 H1 F1 e1 S1 st1 k1 vs vo nw => ?_⟩
  cases g : frz xs with
  | none => rw [g] at k1; exact k1.elim
  | some ds =>
    rw [g] at k1
    dsimp only at k1
    split at k1
    · rename_i hz
      obtain ⟨S2, r, hq⟩ := freeze S1 vo nw g
      have st2 := st1.lose S.al hq
      have z : vs.length ≤ sizeLine := by rw [r.length, line_eq]; exact hz
      exact ⟨z, (Post.later (o := Out.ok (RV.own (.list ds)) ρ1) k1 st2).lst S2 r z st1.dom⟩
    · exact k1.elim
theorem q_tuple {es : List Expr} {x1} {m : MEs} {pos : Pos} (h : QA X W es m) : QE X W (.Tuple es x1 pos) (mTup m) := by
  refine PE.of (pe_tup h) fun σ H Q hq => ?_
  obtain ⟨Z, F, ρ, S, k⟩ := hq
  refine ⟨Z, F, ρ, S, Post.bind0 k fun xs ρ1 H1 F1 e1 S1 st1 k1 vs vo nw => ?_⟩
  cases g : frz xs with
  | none => rw [g] at k1; exact k1.elim
  | some ds =>
    rw [g] at k1
    dsimp only at k1
    split at k1
    · rename_i hz
      obtain ⟨S2, r, hq⟩ := freeze S1 vo nw g
      have st2 := st1.lose S.al hq
      have z : vs.length ≤ sizeLine := by rw [r.length, line_eq]; exact hz
      exact ⟨z, (Post.later (o := Out.ok (RV.dat (.tuple ds)) ρ1) k1 st2).tup S2 r z⟩
    · exact k1.elim

/-! ### built-in functions on data -/
omit [Tab] [Zok] in
inductive TopAll (K : PySem.W.Frag) (F : Forb) (H : Hp) : List V → List D → Prop
  | nil : TopAll K F H [] []
  | cons {v vs d ds} : Top K F H v d → TopAll K F H vs ds → TopAll K F H (v :: vs) (d :: ds)
theorem VsOk.tops {K : PySem.W.Frag} {Z : Zone} {F : Forb} {ρ : Env} {σ : St} {H : Hp} (S : SR K Z F ρ σ H) : ∀ {vs : List V} {rs : List RV} {ds : List D}, VsOk K Z F ρ σ H vs rs → gets ρ rs = some ds → TopAll K F H vs ds
  | _, _, _, .nil, e => by cases e; exact .nil
  | _, _, _, .cons (r := r) (rs := rs) h t, e => by
    unfold gets at e
    cases g1 : r.get ρ with
    | none => rw [g1] at e; cases e
    | some d =>
      cases g2 : gets ρ rs with
      | none => rw [g1, g2] at e; cases e
      | some ds =>
        rw [g1, g2] at e
        cases e
        exact .cons (h.top S g1) (VsOk.tops S t g2)
def ServesN (X : Cx) (r : List V → Hp → VK → Prop) (f : List D → Option RV) : Prop := ∀ (W : WX) (Z : Zone) (F : Forb) (ρ : Env) (σ : St) (H H0 : Hp) (xs : List V) (ds : List D) (rv : RV) (Q : VK), SR X.K Z F ρ σ H → (∀ a, H0 a ≠ none → H a ≠ none) → TopAll X.K F H xs ds → f ds = some rv →
  Post X W Z σ F ρ H (GE X Z σ H0 Q) (.ok rv ρ) → r xs H Q
theorem q_N {e : Expr} {r : List V → Hp → VK → Prop} {a : MEs} {f : List D → Option RV} (h : PE X e (tCB r (RA X W a))) (ok : ServesN X r f) : QE X W e (mN a f) := by
  refine PE.of h fun σ H Q hq => ?_
  obtain ⟨Z, F, ρ, S, k⟩ := hq
  refine ⟨Z, F, ρ, S, Post.bind k fun xs ρ1 H1 F1 e1 S1 st1 k1 vs vo nw => ?_⟩
  cases g1 : gets ρ1 xs with
  | none => rw [g1] at k1; exact k1.elim
  | some ds =>
    cases g3 : f ds with
    | none => rw [g1] at k1; simp only [g3] at k1; exact k1.elim
    | some rv =>
      rw [g1] at k1
      simp only [g3] at k1
      exact ok W Z F1 ρ1 σ H1 H vs ds rv Q S1 st1.dom (vo.tops S1 g1) g3 k1
omit [Tab] [Zok] in
def on1 (f : D → Option RV) : List D → Option RV
  | [d] => f d
  | _ => none
omit [Tab] [Zok] in
def on2 (f : D → D → Option RV) : List D → Option RV
  | [d, e] => f d e
  | _ => none
theorem sv1 {r : List V → Hp → VK → Prop} {f : D → Option RV} (h : Serves1 X (fun x H Q => r [x] H Q) f) : ServesN X r (on1 f) := by
  intro W Z F ρ σ H H0 xs ds rv Q S hd t hf k
  cases t with
  | nil => cases hf
  | cons t1 t2 =>
    cases t2 with
    | nil => exact h W Z F ρ σ H H0 _ _ rv Q S hd t1 hf k
    | cons _ _ => cases hf
theorem sv2 {r : List V → Hp → VK → Prop} {f : D → D → Option RV} (h : Serves2 X (fun x y H Q => r [x, y] H Q) f) : ServesN X r (on2 f) := by
  intro W Z F ρ σ H H0 xs ds rv Q S hd t hf k
  cases t with
  | nil => cases hf
  | cons t1 t2 =>
    cases t2 with
    | nil => cases hf
    | cons t2 t3 =>
      cases t3 with
      | nil => exact h W Z F ρ σ H H0 _ _ _ _ rv Q S hd t1 t2 hf k
      | cons _ _ => cases hf
theorem CallR.or {f : Value} {r r' : List V → Hp → VK → Prop} (h : CallR X f r) (h' : CallR X f r') : CallR X f (fun xs H Q => r xs H Q ∨ r' xs H Q) := by
  intro pins s σ H xs us Q I rv q
  rcases q with q | q
  · exact h pins s σ H xs us Q I rv q
  · exact h' pins s σ H xs us Q I rv q
structure CallS (X : Cx) (f : Value) (g : List D → Option RV) : Prop where
  ex : ∃ r, CallR X f r ∧ ServesN X r g
theorem q_bltn {x : Str} {p pos : Pos} {e : Expr} {es : List Expr} {m : MEs} {g : List D → Option RV} {id : String} (hc : CallS X (.builtin id) g) (hg : Gl X x) (hm : X.mg x = none) (hv : bootBuiltins x = some (.builtin id)) (ha : QA X W (e :: es) m)
    (hn : x ≠ "__name__" := by decide) (hdb : (x == ("__debug__" : Str)) = false := by decide) (he : starEach (e :: es) X.env = (false, eval e X.env) :: starEach es X.env := by rfl) (hpl : (backTo pos (starEach es X.env)).any (·.1) = false := by rfl) :
    QE X W (.Call (.Name x p) (e :: es) [] pos) (mN m g) := by
  obtain ⟨r, h1, h2⟩ := hc.ex
  exact q_N (pe_callB h1 hg hm hv ha hn hdb he hpl) h2
theorem q_bltnTy {x : Str} {p pos : Pos} {e : Expr} {es : List Expr} {m : MEs} {g : List D → Option RV} {T : String} (hc : CallS X (.type T) g) (hg : Gl X x) (hm : X.mg x = none) (hv : bootBuiltins x = some (.type T)) (ha : QA X W (e :: es) m)
    (hn : x ≠ "__name__" := by decide) (hdb : (x == ("__debug__" : Str)) = false := by decide) (he : starEach (e :: es) X.env = (false, eval e X.env) :: starEach es X.env := by rfl) (hpl : (backTo pos (starEach es X.env)).any (·.1) = false := by rfl) :
    QE X W (.Call (.Name x p) (e :: es) [] pos) (mN m g) := by
  obtain ⟨r, h1, h2⟩ := hc.ex
  exact q_N (pe_callTy h1 hg hm hv ha hn hdb he hpl) h2
omit [Tab] [Zok] in
/-- len -/
def dLen : D → Option RV
  | .str x => if x.length ≤ LINE then some (.dat (.int x.length)) else none
  | .list xs => some (.dat (.int xs.length))
  | .tuple xs => some (.dat (.int xs.length))
  | _ => none
theorem cs_len : CallS X (.builtin "len") (on1 dLen) := by
  refine ⟨_, call_len, sv1 ?_⟩
  intro W Z F ρ σ H H0 x d rv Q S hd tx hf k
  cases d with
  | str y =>
    simp only [dLen] at hf
    split at hf
    · rename_i h
      cases hf
      refine ⟨x, y.length, rfl, ?_, k.dat S (.int _)⟩
      rw [tx.str]
      exact ⟨by rw [line_eq]; exact h, rfl⟩
    · cases hf
  | list xs =>
    cases hf
    obtain ⟨a, ys, rfl, ra, za, pa⟩ := tx.list
    exact ⟨_, xs.length, rfl, .inl ⟨ys, .inl ra, pa.length.symm⟩, k.dat S (.int _)⟩
  | tuple xs =>
    cases hf
    obtain ⟨a, ys, rfl, ra, za, pa, _⟩ := tx.tuple
    exact ⟨_, xs.length, rfl, .inr ⟨ys, ra, pa.length.symm⟩, k.dat S (.int _)⟩
  | _ => cases hf
omit [Tab] [Zok] in
def dAbs : D → Option RV
  | .int i => some (.dat (.int (if i < 0 then -i else i)))
  | _ => none
theorem cs_abs : CallS X (.builtin "abs") (on1 dAbs) := by
  refine ⟨_, call_abs, sv1 ?_⟩
  intro W Z F ρ σ H H0 x d rv Q S hd tx hf k
  cases d with
  | int i => cases hf; exact ⟨i, by rw [tx.int], k.dat S (.int _)⟩
  | _ => cases hf
omit [Tab] [Zok] in
def dInt : D → Option RV
  | .int i => some (.dat (.int i))
  | .bool b => some (.dat (.int (if b then 1 else 0)))
  | _ => none
theorem cs_int : CallS X (.type "int") (on1 dInt) := by
  refine ⟨_, call_int1, sv1 ?_⟩
  intro W Z F ρ σ H H0 x d rv Q S hd tx hf k
  cases d with
  | int i => cases hf; exact .inl ⟨i, by rw [tx.int], k.dat S (.int _)⟩
  | bool i => cases hf; exact .inr ⟨i, by rw [tx.bool], k.dat S (.int _)⟩
  | _ => cases hf
omit [Tab] [Zok] in
def dList : D → Option RV
  | .list xs => some (.own (.list xs))
  | .tuple xs => some (.own (.list xs))
  | _ => none
theorem cs_list : CallS X (.type "list") (on1 dList) := by
  refine ⟨_, call_list_of, sv1 ?_⟩
  intro W Z F ρ σ H H0 x d rv Q S hd tx hf k
  cases d with
  | list xs =>
    cases hf
    obtain ⟨a, ys, rfl, ra, za, pa⟩ := tx.list
    exact ⟨a, ys, rfl, .inl (.inl ra), k.lst S pa za hd⟩
  | tuple xs =>
    cases hf
    obtain ⟨a, ys, rfl, ra, za, pa, _⟩ := tx.tuple
    exact ⟨a, ys, rfl, .inr ra, k.lst S pa za hd⟩
  | _ => cases hf
omit [Tab] [Zok] in
def dTuple : D → Option RV
  | .list xs => some (.dat (.tuple xs))
  | .tuple xs => some (.dat (.tuple xs))
  | _ => none
theorem cs_tuple : CallS X (.type "tuple") (on1 dTuple) := by
  refine ⟨_, call_tuple_of, sv1 ?_⟩
  intro W Z F ρ σ H H0 x d rv Q S hd tx hf k
  cases d with
  | list xs =>
    cases hf
    obtain ⟨a, ys, rfl, ra, za, pa⟩ := tx.list
    exact ⟨a, ys, rfl, .inl ⟨.inl ra, k.tup S pa za⟩⟩
  | tuple xs =>
    cases hf
    obtain ⟨a, ys, rfl, ra, za, pa, w⟩ := tx.tuple
    exact ⟨a, ys, rfl, .inr ⟨ra, k.dat S w⟩⟩
  | _ => cases hf
omit [Tab] [Zok] in
/-- all, any of truth values -/
def bools : List D → Option (List Bool)
  | [] => some []
  | .bool b :: ds => (bools ds).map (b :: ·)
  | _ => none
theorem bools_of : ∀ {ds : List D} {bs : List Bool}, bools ds = some bs → ds = bs.map PyData.bool
  | [], _, e => by cases e; rfl
  | .bool b :: ds, _, e => by
    cases q : bools ds with
    | none => simp [bools, q] at e
    | some bs =>
      simp only [bools, q, Option.map_some, Option.some.injEq] at e
      subst e
      rw [List.map_cons, bools_of q]
  | .none :: _, _, e => by cases e
  | .int _ :: _, _, e => by cases e
  | .str _ :: _, _, e => by cases e
  | .list _ :: _, _, e => by cases e
  | .tuple _ :: _, _, e => by cases e
  | .dict _ :: _, _, e => by cases e
theorem bools_map (bs : List Bool) : bools (bs.map PyData.bool) = some bs := by
  induction bs with
  | nil => rfl
  | cons b bs ih => simp [bools, ih]
omit [Tab] [Zok] in
def dAll : D → Option RV
  | .list ds => match bools ds with
    | some bs => some (.dat (.bool (bs.all id)))
    | none => none
  | _ => none
omit [Tab] [Zok] in
def dAny : D → Option RV
  | .list ds => match bools ds with
    | some bs => some (.dat (.bool (bs.any id)))
    | none => none
  | _ => none
theorem cs_all (hc : X.calm = true) : CallS X (.builtin "all") (on1 dAll) := by
  refine ⟨_, cr_all hc, sv1 ?_⟩
  intro W Z F ρ σ H H0 x d rv Q S hd tx hf k
  cases d with
  | list xs =>
    obtain ⟨a, ys, rfl, ra, za, pa⟩ := tx.list
    cases q : bools xs with
    | none => simp [dAll, q] at hf
    | some bs =>
      simp only [dAll, q] at hf
      cases hf
      rw [bools_of q] at pa
      exact ⟨a, bs, rfl, by rw [← pa.bools]; exact .inl ra, k.dat S (.bl _)⟩
  | _ => cases hf
theorem cs_any (hc : X.calm = true) : CallS X (.builtin "any") (on1 dAny) := by
  refine ⟨_, cr_any hc, sv1 ?_⟩
  intro W Z F ρ σ H H0 x d rv Q S hd tx hf k
  cases d with
  | list xs =>
    obtain ⟨a, ys, rfl, ra, za, pa⟩ := tx.list
    cases q : bools xs with
    | none => simp [dAny, q] at hf
    | some bs =>
      simp only [dAny, q] at hf
      cases hf
      rw [bools_of q] at pa
      exact ⟨a, bs, rfl, by rw [← pa.bools]; exact .inl ra, k.dat S (.bl _)⟩
  | _ => cases hf
omit [Tab] [Zok] in
/-- isinstance(a, T), T a written built-in class -/
def mIsi (a : ME) (f : D → Bool) : ME := m1 a fun d => some (.dat (.bool (f d)))
omit [Tab] [Zok] in
def tyD : D → String
  | .none => "NoneType"
  | .bool _ => "bool"
  | .int _ => "int"
  | .str _ => "str"
  | .list _ => "list"
  | .tuple _ => "tuple"
  | .dict _ => "dict"
omit [Tab] [Zok] in
def dIsInt : D → Bool
  | .bool _ => true
  | .int _ => true
  | _ => false
omit [Tab] [Zok] in
def dIsBool : D → Bool
  | .bool _ => true
  | _ => false
omit [Tab] [Zok] in
def dIsStr : D → Bool
  | .str _ => true
  | _ => false
omit [Tab] [Zok] in
def dIsList : D → Bool
  | .list _ => true
  | _ => false
omit [Tab] [Zok] in
def dIsTuple : D → Bool
  | .tuple _ => true
  | _ => false
omit [Tab] [Zok] in
def dIsDict : D → Bool
  | .dict _ => true
  | _ => false
omit [Tab] [Zok] in
structure IsiT (T : String) (f : D → Bool) : Prop where
  rule : ∀ (K : PySem.W.Frag) (d : D), PySem.W.kitOne K (.type (tyD d)) (.type T) = some (f d)
theorem isi_int : IsiT "int" dIsInt := ⟨fun K d => by cases d <;> rfl⟩
theorem isi_bool : IsiT "bool" dIsBool := ⟨fun K d => by cases d <;> rfl⟩
theorem isi_str : IsiT "str" dIsStr := ⟨fun K d => by cases d <;> rfl⟩
theorem isi_list : IsiT "list" dIsList := ⟨fun K d => by cases d <;> rfl⟩
theorem isi_tuple : IsiT "tuple" dIsTuple := ⟨fun K d => by cases d <;> rfl⟩
theorem isi_dict : IsiT "dict" dIsDict := ⟨fun K d => by cases d <;> rfl⟩
theorem Top.ty {v : V} {d : D} {F : Forb} {H : Hp} (t : Top K F H v d) : TyX K H v (.type (tyD d)) := by
  rcases t with r | ⟨a, ds, xs, rfl, rfl, h, _, r⟩
  · cases r with
    | non => exact .base .non
    | bl b => exact .base (.bl b)
    | int i => exact .base (.int i)
    | str x => exact .base (.str x)
    | lst _ h _ _ => exact .base (.lst h)
    | lstF _ h _ _ => exact .base (.frz h)
    | tup _ h _ _ => exact .base (.tup h)
    | tupK h c _ _ _ _ => exact .kTuple h c
    | dct _ h _ => exact .base (.dK h)
  · exact .base (.lst h)
theorem q_isi {T : String} {f : D → Bool} {x : Str} {p pos p2 : Pos} {e : Expr} {m : ME} {tn : Str} (h : IsiT T f) (hg : Gl X x) (hm : X.mg x = none) (hv : bootBuiltins x = some (.builtin "isinstance")) (ha : QE X W e m)
    (hgT : Gl X tn) (hmT : X.mg tn = none) (hvT : bootBuiltins tn = some (.type T)) (hnT : tn ≠ "__name__" := by decide) (hdT : (tn == ("__debug__" : Str)) = false := by decide)
    (hn : x ≠ "__name__" := by decide) (hdb : (x == ("__debug__" : Str)) = false := by decide) (hs1 : starEach [e, .Name tn p2] X.env = (false, eval e X.env) :: starEach [.Name tn p2] X.env := by rfl)
    (hs2 : starEach [.Name tn p2] X.env = (false, eval (.Name tn p2) X.env) :: starEach [] X.env := by rfl) (hpl : (backTo pos (starEach [.Name tn p2] X.env)).any (·.1) = false := by rfl) :
    QE X W (.Call (.Name x p) [e, .Name tn p2] [] pos) (mIsi m f) := by
  have hT : PE X (.Name tn p2) (tC (.ty T)) := pe_bltn hgT hmT hvT rfl hnT hdT
  refine PE.of (pe_callB call_isi hg hm hv (pa_cons ha (pa_cons hT pa_nil hs2) hs1) hn hdb hs1 hpl) fun σ H Q hq => ?_
  obtain ⟨Z, F, ρ, S, k⟩ := hq
  refine ⟨Z, F, ρ, S, Post.bind k fun x ρ1 H1 F1 e1 S1 st1 k1 v1 vo1 nw1 => ?_⟩
  cases g1 : x.get ρ1 with
  | none => rw [g1] at k1; exact k1.elim
  | some d =>
    rw [g1] at k1
    exact ⟨v1, _, _, _, _, rfl, .ty T, (vo1.top S1 g1).ty, h.rule X.K d, k1.dat S1 (.bl _)⟩

/-! ### subscripts -/
omit [Tab] [Zok] in
def dIx : D → D → Option RV
  | .list xs, .int i => match atI xs i with
    | some d => some (.dat d)
    | none => none
  | .tuple xs, .int i => match atI xs i with
    | some d => some (.dat d)
    | none => none
  | .str z, .int i => if z.length ≤ LINE then match atI z.cps.toList i with
    | some c => some (.dat (.str ⟨#[c]⟩))
    | none => none else none
  | _, _ => none
theorem RepAll.atI {vs : List V} {ds : List D} {i : Int} {d : D} (r : RepAll K F H vs ds) (e : atI ds i = some d) : ∃ v, L2.atI vs i = some v ∧ Rep K F H v d := by
  unfold L2.atI at e ⊢
  rw [r.length]
  cases q : ixN ds.length i with
  | none => rw [q] at e; cases e
  | some j =>
    rw [q] at e
    obtain ⟨v, h1, h2⟩ := r.get (i := j) e
    exact ⟨v, h1, h2⟩
theorem sv_ix : Serves2 X (rIx X.K) dIx := by
  intro W Z F ρ σ H H0 x y d e rv Q S hd tx ty hf k
  cases d with
  | list xs =>
    cases e with
    | int i =>
      cases q : L2.atI xs i with
      | none => simp [dIx, q] at hf
      | some d =>
        simp only [dIx, q] at hf
        cases hf
        obtain ⟨a, ys, rfl, ra, za, pa⟩ := tx.list
        obtain ⟨v, h1, h2⟩ := pa.atI q
        exact .inl ⟨a, ys, i, v, rfl, ty.int, .inl ra, h1, k.dat S h2⟩
    | _ => cases hf
  | tuple xs =>
    cases e with
    | int i =>
      cases q : L2.atI xs i with
      | none => simp [dIx, q] at hf
      | some d =>
        simp only [dIx, q] at hf
        cases hf
        obtain ⟨a, ys, rfl, ra, za, pa, _⟩ := tx.tuple
        obtain ⟨v, h1, h2⟩ := pa.atI q
        exact .inr (.inl ⟨a, ys, i, v, rfl, ty.int, ra, h1, k.dat S h2⟩)
    | _ => cases hf
  | str z =>
    cases e with
    | int i =>
      simp only [dIx] at hf
      split at hf
      · rename_i hz
        cases q : L2.atI z.cps.toList i with
        | none => simp [q] at hf
        | some c =>
          simp only [q] at hf
          cases hf
          exact .inr (.inr ⟨z, i, c, tx.str, ty.int, by rw [line_eq]; exact hz, q, k.dat S (.str _)⟩)
      · cases hf
    | _ => cases hf
  | _ => cases hf
theorem q_ix {a b : Expr} {ma mb : ME} {pos : Pos} (ha : QE X W a ma) (hb : QE X W b mb) (hs : PlainIx b := by intro _ _; rfl) : QE X W (.Subscript a b pos) (m2 ma mb dIx) := q_2 (pe_ix ix_seq ha hb hs) sv_ix
omit [Tab] [Zok] in
/-- slices: a bound -/
abbrev MO := Env → Out (Option Int)
omit [Tab] [Zok] in
def oNone : MO := fun ρ => .ok none ρ
omit [Tab] [Zok] in
def oSome (a : ME) : MO := fun ρ => (a ρ).bind fun x ρ1 => match x with
  | .dat (.int i) => .ok (some i) ρ1
  | _ => .no
def RO (X : Cx) (W : WX) (m : MO) : TO := fun σ H Q => ∃ Z F ρ, SR X.K Z F ρ σ H ∧ Post X W Z σ F ρ H (fun o _ _ H' => Q o H') (m ρ)
abbrev QO (X : Cx) (W : WX) (o : Option Expr) (m : MO) : Prop := PO X o (RO X W m)
theorem PO.of {o : Option Expr} {t u : TO} (h : PO X o t) (i : ∀ σ H Q, u σ H Q → t σ H Q) : PO X o u := ⟨fun pins s σ H Q I hw => h.run pins s σ H Q I (i _ _ _ hw)⟩
theorem qo_none : QO X W none oNone := by
  refine PO.of po_none fun σ H Q hq => ?_
  obtain ⟨Z, F, ρ, S, k⟩ := hq
  exact k H F S .refl
theorem qo_some {e : Expr} {m : ME} (h : QE X W e m) : QO X W (some e) (oSome m) := by
  refine PO.of (po_some h) fun σ H Q hq => ?_
  obtain ⟨Z, F, ρ, S, k⟩ := hq
  refine ⟨Z, F, ρ, S, Post.bind k fun x ρ1 H1 F1 e1 S1 st1 k1 v1 vo1 nw1 => ?_⟩
  split at k1
  · rename_i i
    cases (show Rep X.K F1 H1 v1 (.int i) from vo1)
    exact ⟨i, rfl, k1 H1 F1 S1 .refl⟩
  · exact k1.elim
omit [Tab] [Zok] in
def cutD {α : Type} (xs : List α) (lo hi : Option Int) : List α := (xs.drop (HT.sIx xs.length 0 lo)).take (HT.sIx xs.length xs.length hi - HT.sIx xs.length 0 lo)
omit [Tab] [Zok] in
def dSlice (d : D) (lo hi : Option Int) : Option RV := match d with
  | .list xs => some (.own (.list (cutD xs lo hi)))
  | .tuple xs => some (.dat (.tuple (cutD xs lo hi)))
  | _ => none
omit [Tab] [Zok] in
def mSlice (a : ME) (lo hi : MO) : ME := fun ρ => (a ρ).bind fun x ρ1 => (lo ρ1).bind fun l ρ2 => (hi ρ2).bind fun h ρ3 => match x.get ρ3 with
  | some d => match dSlice d l h with
    | some r => .ok r ρ3
    | none => .no
  | none => .no
theorem RepAll.cut {vs : List V} {ds : List D} (r : RepAll K F H vs ds) (lo hi : Option Int) : RepAll K F H (cutV vs lo hi) (cutD ds lo hi) := by
  unfold cutV cutD
  rw [r.length]
  exact (r.drop _).take _
theorem q_slice {a : Expr} {lo hi : Option Expr} {ma : ME} {ml mh : MO} {pos p2 : Pos} (ha : QE X W a ma) (hl : QO X W lo ml) (hh : QO X W hi mh) : QE X W (.Subscript a (.Slice lo hi none p2) pos) (mSlice ma ml mh) := by
  refine PE.of (pe_slice (sl_list.or sl_tupA) ha hl hh) fun σ H Q hq => ?_
  obtain ⟨Z, F, ρ, S, k⟩ := hq
  refine ⟨Z, F, ρ, S, Post.bind k fun x ρ1 H1 F1 e1 S1 st1 k1 v1 vo1 nw1 => ⟨Z, F1, ρ1, S1, Post.bind k1 fun l ρ2 H2 F2 e2 S2 st2 k2 => ⟨Z, F2, ρ2, S2, Post.bind k2 fun h ρ3 H3 F3 e3 S3 st3 k3 => ?_⟩⟩⟩
  have vo3 := (vo1.step st2).step st3
  have hd : ∀ a, H a ≠ none → H3 a ≠ none := fun a z => st3.dom a (st2.dom a (st1.dom a z))
  cases g1 : x.get ρ3 with
  | none => rw [g1] at k3; exact k3.elim
  | some d =>
    rw [g1] at k3
    have tx := vo3.top S3 g1
    cases d with
    | list xs =>
      obtain ⟨a, ys, rfl, ra, za, pa⟩ := tx.list
      have z : (cutV ys l h).length ≤ sizeLine := Nat.le_trans (cutV_length ys l h) za
      exact .inl ⟨a, ys, rfl, .inl ra, Post.lst k3 S3 (pa.cut l h) z hd⟩
    | tuple xs =>
      obtain ⟨a, ys, rfl, ra, za, pa, w⟩ := tx.tuple
      have z : (cutV ys l h).length ≤ sizeLine := Nat.le_trans (cutV_length ys l h) za
      refine .inr ⟨a, ys, rfl, ra, fun e => ?_, fun _ => Post.tup k3 S3 (pa.cut l h) z⟩
      have e2 : cutD xs l h = xs := by
        unfold cutD
        rw [pa.length] at e
        rw [e.1, e.2]
        simp
      have k4 : Post X W Z σ F3 ρ3 H3 (GE X Z σ H Q) (.ok (.dat (.tuple (cutD xs l h))) ρ3) := k3
      rw [e2] at k4
      exact k4.dat S3 w
    | _ => exact k3.elim
end
end PD

namespace PD
open PySem PySem.Spec PyProof.Rows L2
/-! ### statements -/
structure StepS [Tab] (σ σ' : St) (F F' : Forb) (ρ ρ' : Env) (H H' : Hp) : Prop where
  car : Car F F' H H'
  tm : ∀ a, F a → (∀ i, ¬ OwnAt ρ σ i a) → H' a = H a ∧ F' a ∧ ∀ i, ¬ OwnAt ρ' σ' i a
  dom : ∀ a, H a ≠ none → H' a ≠ none
theorem Step.s [Tab] {σ : St} {F F' : Forb} {ρ ρ' : Env} {H H' : Hp} (s : Step σ F F' ρ ρ' H H') : StepS σ σ F F' ρ ρ' H H' where
  car := s.car
  tm := fun a f n => by
    refine ⟨s.tm a f n, ?_, fun i o => n i (s.ow i a o)⟩
    rcases s.kp a f with z | ⟨i, z, _⟩
    · exact z
    · exact absurd z (n i)
  dom := s.dom
theorem StepS.refl [Tab] {σ : St} {F : Forb} {ρ : Env} {H : Hp} : StepS σ σ F F ρ ρ H H := ⟨.refl, fun _ f n => ⟨rfl, f, n⟩, fun _ h => h⟩
theorem Car.trans [Tab] {F F1 F2 : Forb} {H H1 H2 : Hp} (a : Car F F1 H H1) (b : Car F1 F2 H1 H2) (d : ∀ a, H a ≠ none → H1 a ≠ none) : Car F F2 H H2 :=
  ⟨fun x u n t r => b.rd x u (a.not n r) t (a.rd x u n t r), fun x f => by
    rcases b.fr x f with z | z
    · exact a.fr x z
    · right
      cases q : H x with
      | none => rfl
      | some o => exact absurd z (d x (nn q)), fun t => b.tb (a.tb t)⟩
theorem StepS.trans [Tab] {σ σ1 σ2 : St} {F F1 F2 : Forb} {ρ ρ1 ρ2 : Env} {H H1 H2 : Hp} (a : StepS σ σ1 F F1 ρ ρ1 H H1) (b : StepS σ1 σ2 F1 F2 ρ1 ρ2 H1 H2) : StepS σ σ2 F F2 ρ ρ2 H H2 where
  car := a.car.trans b.car a.dom
  tm := fun x f n => by
    obtain ⟨e1, f1, n1⟩ := a.tm x f n
    obtain ⟨e2, f2, n2⟩ := b.tm x f1 n1
    exact ⟨e2.trans e1, f2, n2⟩
  dom := fun x h => b.dom x (a.dom x h)
def PostS [Tab] [Zok] (X : Cx) (W : WX) (Z : Zone) (σ : St) (F : Forb) (ρ : Env) (H : Hp) (D : Ends) : SO → Prop
  | .next ρ' => ∀ σ' H' F', SR X.K Z F' ρ' σ' H' → StepS σ σ' F F' ρ ρ' H H' → D.nx σ' H'
  | .brk ρ' => ∀ σ' H' F', SR X.K Z F' ρ' σ' H' → StepS σ σ' F F' ρ ρ' H H' → D.bk σ' H'
  | .cont ρ' => ∀ σ' H' F', SR X.K Z F' ρ' σ' H' → StepS σ σ' F F' ρ ρ' H H' → D.ct σ' H'
  | .ret r ρ' => ∀ v σ' H' F', SR X.K Z F' ρ' σ' H' → StepS σ σ' F F' ρ ρ' H H' → VOk X.K Z F' ρ' σ' H' v r → D.rt v H'
  | .exc e ρ' => ∀ cls d σ' H' F', SR X.K Z F' ρ' σ' H' → StepS σ σ' F F' ρ ρ' H H' → ExcOk X.mg H' e cls d → W cls d σ' H'
  | .no => False
def RS [Tab] [Zok] (X : Cx) (W : WX) (m : MS) : TS := fun D σ H => ∃ Z F ρ, SR X.K Z F ρ σ H ∧ PostS X W Z σ F ρ H D (m ρ)
abbrev QS [Tab] [Zok] (X : Cx) (W : WX) (s : Stmt) (m : MS) : Prop := PS X s (RS X W m)
abbrev QB [Tab] [Zok] (X : Cx) (W : WX) (s : List Stmt) (m : MS) : Prop := PSs X s (RS X W m)
def Out.bindS {α : Type} (o : Out α) (f : α → Env → SO) : SO := match o with
  | .ok a ρ => f a ρ
  | .exc e ρ => .exc e ρ
  | .no => .no
def SO.bind (o : SO) (f : Env → SO) : SO := match o with
  | .next ρ => f ρ
  | o => o
section
variable [Tab] [Zok] {X : Cx} {W : WX} {K : PySem.W.Frag} {Z : Zone} {σ σ1 : St} {F F1 F' : Forb} {ρ ρ1 : Env} {H H0 H1 : Hp} {D : Ends}
theorem PostS.later {o : SO} (p : PostS X W Z σ F ρ H D o) (s : StepS σ σ1 F F1 ρ ρ1 H H1) : PostS X W Z σ1 F1 ρ1 H1 D o := by
  cases o with
  | next ρ' => exact fun σ' H' F' S st => p σ' H' F' S (s.trans st)
  | brk ρ' => exact fun σ' H' F' S st => p σ' H' F' S (s.trans st)
  | cont ρ' => exact fun σ' H' F' S st => p σ' H' F' S (s.trans st)
  | ret r ρ' => exact fun v σ' H' F' S st => p v σ' H' F' S (s.trans st)
  | exc e ρ' => exact fun cls d σ' H' F' S st => p cls d σ' H' F' S (s.trans st)
  | no => exact p
/-- an expression at a statement's head; what is asked behind is told from the begin -/
theorem PostS.bind0 {α : Type} {G : α → Env → Forb → Hp → Prop} {o : Out α} {f : α → Env → SO} (p : PostS X W Z σ F ρ H D (o.bindS f))
    (h : ∀ a ρ1 H1 F1, o = .ok a ρ1 → SR X.K Z F1 ρ1 σ H1 → Step σ F F1 ρ ρ1 H H1 → PostS X W Z σ F ρ H D (f a ρ1) → G a ρ1 F1 H1) : Post X W Z σ F ρ H G o := by
  cases o with
  | ok a ρ1 => exact fun H1 F1 S st => h a ρ1 H1 F1 rfl S st p
  | exc e ρ' => exact fun cls d H' F' S st eo => p cls d σ H' F' S st.s eo
  | no => exact p
theorem PostS.bind {α : Type} {G : α → Env → Forb → Hp → Prop} {o : Out α} {f : α → Env → SO} (p : PostS X W Z σ F ρ H D (o.bindS f))
    (h : ∀ a ρ1 H1 F1, o = .ok a ρ1 → SR X.K Z F1 ρ1 σ H1 → Step σ F F1 ρ ρ1 H H1 → PostS X W Z σ F1 ρ1 H1 D (f a ρ1) → G a ρ1 F1 H1) : Post X W Z σ F ρ H G o :=
  PostS.bind0 p fun a ρ1 H1 F1 e S st k => h a ρ1 H1 F1 e S st (k.later st.s)
theorem PostS.imp {D' : Ends} {o : SO} (p : PostS X W Z σ F ρ H D o) (hn : ∀ ρ' σ' H' F', o = .next ρ' → SR X.K Z F' ρ' σ' H' → StepS σ σ' F F' ρ ρ' H H' → D.nx σ' H' → D'.nx σ' H') (hb : ∀ σ' H', D.bk σ' H' → D'.bk σ' H') (hc : ∀ σ' H', D.ct σ' H' → D'.ct σ' H') (hr : ∀ v H', D.rt v H' → D'.rt v H') : PostS X W Z σ F ρ H D' o := by
  cases o with
  | next ρ' => exact fun σ' H' F' S st => hn ρ' σ' H' F' rfl S st (p σ' H' F' S st)
  | brk ρ' => exact fun σ' H' F' S st => hb _ _ (p σ' H' F' S st)
  | cont ρ' => exact fun σ' H' F' S st => hc _ _ (p σ' H' F' S st)
  | ret r ρ' => exact fun v σ' H' F' S st vo => hr _ _ (p v σ' H' F' S st vo)
  | exc e ρ' => exact p
  | no => exact p
omit [Tab] [Zok] in
def sPass : MS := fun ρ => .next ρ
omit [Tab] [Zok] in
def sSeq (a b : MS) : MS := fun ρ => (a ρ).bind b
omit [Tab] [Zok] in
def sExpr (m : ME) : MS := fun ρ => (m ρ).bindS fun _ ρ1 => .next ρ1
omit [Tab] [Zok] in
def sRet (m : ME) : MS := fun ρ => (m ρ).bindS fun r ρ1 => .ret r ρ1
omit [Tab] [Zok] in
def sRetN : MS := fun ρ => .ret (.dat .none) ρ
omit [Tab] [Zok] in
def sIf (c : MB) (a b : MS) : MS := fun ρ => (c ρ).bindS fun t ρ1 => if t then a ρ1 else b ρ1
omit [Tab] [Zok] in
def sBrk : MS := fun ρ => .brk ρ
omit [Tab] [Zok] in
def sCont : MS := fun ρ => .cont ρ
theorem qb_nil : QB X W [] sPass := PSs.of pss_nil fun D σ H hq => by
  obtain ⟨Z, F, ρ, S, k⟩ := hq
  exact k σ H F S .refl
theorem qs_pass {pos : Pos} : QS X W (.Pass pos) sPass := PS.of ps_pass fun D σ H hq => by
  obtain ⟨Z, F, ρ, S, k⟩ := hq
  exact k σ H F S .refl
theorem qs_break {pos : Pos} : QS X W (.Break pos) sBrk := PS.of ps_break fun D σ H hq => by
  obtain ⟨Z, F, ρ, S, k⟩ := hq
  exact k σ H F S .refl
theorem qs_continue {pos : Pos} : QS X W (.Continue pos) sCont := PS.of ps_continue fun D σ H hq => by
  obtain ⟨Z, F, ρ, S, k⟩ := hq
  exact k σ H F S .refl
theorem qb_cons {s : Stmt} {r : List Stmt} {a b : MS} (h1 : QS X W s a) (h2 : QB X W r b) : QB X W (s :: r) (sSeq a b) := by
  refine PSs.of (pss_cons h1 h2) fun D σ H hq => ?_
  obtain ⟨Z, F, ρ, S, k⟩ := hq
  refine ⟨Z, F, ρ, S, ?_⟩
  unfold sSeq SO.bind at k
  cases q : a ρ with
  | next ρ' => rw [q] at k; exact fun σ' H' F' S' st => ⟨Z, F', ρ', S', k.later st⟩
  | brk ρ' => rw [q] at k; exact k
  | cont ρ' => rw [q] at k; exact k
  | ret r ρ' => rw [q] at k; exact k
  | exc e ρ' => rw [q] at k; exact k
  | no => rw [q] at k; exact k
theorem qb_one {s : Stmt} {a : MS} (h1 : QS X W s a) : QB X W [s] a := pss_one h1
theorem qs_expr {e : Expr} {m : ME} {pos : Pos} (he : QE X W e m) (hs : swapsWith e none pos.line X.env = pure false := by rfl) : QS X W (.Expr e pos) (sExpr m) := by
  refine PS.of (ps_expr he hs) fun D σ H hq => ?_
  obtain ⟨Z, F, ρ, S, k⟩ := hq
  exact ⟨Z, F, ρ, S, PostS.bind0 k fun r ρ1 H1 F1 e1 S1 st1 k1 v vo nw => k1 σ H1 F1 S1 st1.s⟩
theorem qs_ret {e : Expr} {m : ME} {pos : Pos} (he : QE X W e m) : QS X W (.Return (some e) pos) (sRet m) := by
  refine PS.of (ps_ret he) fun D σ H hq => ?_
  obtain ⟨Z, F, ρ, S, k⟩ := hq
  exact ⟨Z, F, ρ, S, PostS.bind0 k fun r ρ1 H1 F1 e1 S1 st1 k1 v vo nw => k1 v σ H1 F1 S1 st1.s vo⟩
theorem qs_retN {pos : Pos} : QS X W (.Return none pos) sRetN := PS.of ps_retN fun D σ H hq => by
  obtain ⟨Z, F, ρ, S, k⟩ := hq
  exact k .non σ H F S .refl .non
theorem qs_if {c : Expr} {a b : List Stmt} {t : MB} {m n : MS} {pos : Pos} (hc : QT X W c t) (ha : QB X W a m) (hb : QB X W b n) : QS X W (.If c a b pos) (sIf t m n) := by
  refine PS.of (ps_if hc ha hb) fun D σ H hq => ?_
  obtain ⟨Z, F, ρ, S, k⟩ := hq
  refine ⟨Z, F, ρ, S, PostS.bind k fun t ρ1 H1 F1 e1 S1 st1 k1 => ?_⟩
  cases t with
  | true => exact iteT ⟨Z, F1, ρ1, S1, k1⟩
  | false => exact iteF ⟨Z, F1, ρ1, S1, k1⟩

/-! ### a slot is set -/
omit [Tab] [Zok] in
def parAt (ρ : Env) (i : Nat) : Bool := match ρ[i]? with
  | some (some (.par _)) => true
  | some (some (.opq o)) => o.prot
  | _ => false
omit [Tab] [Zok] in
/-- as data -/
def sSet (i : Nat) (m : ME) : MS := fun ρ => (m ρ).bindS fun r ρ1 => if parAt ρ1 i then .no else match r with
  | .dat d | .own d => .next (ρ1.set i (some (.dat d)))
  | .bor _ => .no
  | .thg _ => .no
omit [Tab] [Zok] in
/-- a new list of one's own -/
def sOwn (i : Nat) (m : ME) : MS := fun ρ => (m ρ).bindS fun r ρ1 => if parAt ρ1 i then .no else match r with
  | .own d => .next (ρ1.set i (some (.own d)))
  | _ => .no
theorem set_get {α : Type} {l : List (Option α)} {i j : Nat} {x y : α} (h : (l.set i (some x))[j]? = some (some y)) : (j = i ∧ y = x) ∨ (j ≠ i ∧ l[j]? = some (some y)) := by
  by_cases e : j = i
  · subst e
    left
    rw [List.getElem?_set] at h
    simp at h
    exact ⟨rfl, h.2.symm⟩
  · right
    rw [List.getElem?_set_ne (Ne.symm e)] at h
    exact ⟨e, h⟩
theorem OwnAt.of_set {ρ : Env} {σ : St} {i j : Nat} {sv : SV} {v : V} {a : Addr} (o : OwnAt (ρ.set i (some sv)) (σ.set i (some v)) j a) : (j = i ∧ sv.mut = true ∧ v = .ref a) ∨ (j ≠ i ∧ OwnAt ρ σ j a) := by
  obtain ⟨sv', h1, h2, h3⟩ := o
  rcases set_get h1 with ⟨rfl, rfl⟩ | ⟨n, h1⟩
  · rcases set_get h3 with ⟨_, e⟩ | ⟨n, _⟩
    · exact .inl ⟨rfl, h2, e.symm⟩
    · exact absurd rfl n
  · rcases set_get h3 with ⟨e, _⟩ | ⟨_, h3⟩
    · exact absurd e n
    · exact .inr ⟨n, sv', h1, h2, h3⟩
theorem SR.set {i : Nat} {sv : SV} {v : V} (S : SR K Z F ρ σ H) (np : parAt ρ i = false) (h : SlotOk K F H v sv) (ho : ∀ a, sv.mut = true → v = .ref a → ¬ Z.M a ∧ ∀ j, j ≠ i → ¬ OwnAt ρ σ j a) : SR K Z F (ρ.set i (some sv)) (σ.set i (some v)) H where
  len := by simpa using S.len
  al := S.al
  m0 := S.m0
  keepM := S.keepM
  ext := S.ext
  dom := S.dom
  slot := fun j sv' e => by
    rcases set_get e with ⟨rfl, rfl⟩ | ⟨n, e⟩
    · refine ⟨v, ?_, h⟩
      have : j < σ.length := by
        have z := (List.getElem?_eq_some_iff.mp e).1
        rw [List.length_set, S.len] at z
        exact z
      exact List.getElem?_set_self this
    · obtain ⟨v', e1, ok⟩ := S.slot j sv' e
      exact ⟨v', by rw [List.getElem?_set_ne (Ne.symm n)]; exact e1, ok⟩
  par := fun p hp => by
    obtain ⟨d, h1, h2⟩ := S.par p hp
    have n : p.1 ≠ i := fun e => by
      subst e
      unfold parAt at np
      rw [h1] at np
      cases np
    exact ⟨d, by rw [List.getElem?_set_ne (Ne.symm n)]; exact h1, by rw [List.getElem?_set_ne (Ne.symm n)]; exact h2⟩
  apart := fun j k a oj ok => by
    rcases oj.of_set with ⟨rfl, m1, e1⟩ | ⟨n1, o1⟩
    · rcases ok.of_set with ⟨rfl, _, _⟩ | ⟨n2, o2⟩
      · rfl
      · exact absurd o2 ((ho a m1 e1).2 k n2)
    · rcases ok.of_set with ⟨rfl, m2, e2⟩ | ⟨n2, o2⟩
      · exact absurd o1 ((ho a m2 e2).2 j n1)
      · exact S.apart j k a o1 o2
  notM := fun j a o => by
    rcases o.of_set with ⟨rfl, m, e⟩ | ⟨n, o⟩
    · exact (ho a m e).1
    · exact S.notM j a o
  fz := S.fz
  tabs := S.tabs
  fl := S.fl
  zok := S.zok
  opq := fun p hp => by
    obtain ⟨h1, h2⟩ := S.opq p hp
    have n : p.1 ≠ i := fun e => by
      subst e
      unfold parAt at np
      obtain ⟨o, h1, h3⟩ := h1
      rw [h1] at np
      dsimp only at np
      rw [h3] at np
      cases np
    exact ⟨by rw [List.getElem?_set_ne (Ne.symm n)]; exact h1, by rw [List.getElem?_set_ne (Ne.symm n)]; exact h2⟩
theorem step_set {i : Nat} {sv : SV} {v : V} (st : StepS σ σ F F1 ρ ρ1 H H1) (al : ∀ a, F a → H a ≠ none) (hn : ∀ a, sv.mut = true → v = .ref a → H a = none) : StepS σ (σ.set i (some v)) F F1 ρ (ρ1.set i (some sv)) H H1 where
  car := st.car
  dom := st.dom
  tm := fun a f n => by
    obtain ⟨e, f1, n1⟩ := st.tm a f n
    refine ⟨e, f1, fun j o => ?_⟩
    rcases o.of_set with ⟨_, m, e2⟩ | ⟨_, o⟩
    · exact al a f (hn a m e2)
    · exact n1 j o
/-- a value given away at a statement's end -/
theorem give {r : RV} {v : V} {d : PyData} (S : SR K Z F1 ρ1 σ H1) (vo : VOk K Z F1 ρ1 σ H1 v r) (nw : New H v r) (hr : r = .dat d ∨ r = .own d) :
    ∃ F2, SR K Z F2 ρ1 σ H1 ∧ Rep K F2 H1 v d ∧ (∀ a, F2 a → F1 a) ∧ (∀ a, F1 a → F2 a ∨ H a = none) := by
  rcases hr with rfl | rfl
  · exact ⟨F1, S, vo, fun _ f => f, fun _ f => .inl f⟩
  · obtain ⟨S2, r2, hq⟩ := freeze (vs := [v]) (rs := [.own d]) (ds := [d]) S (.cons vo .nil) (.cons nw .nil) rfl
    refine ⟨_, S2, ?_, fun a f => f.1, fun a f => ?_⟩
    · cases r2 with
      | cons r _ => exact r
    · by_cases z : newAt [v] [RV.own d] a
      · exact .inr (hq a z)
      · exact .inl ⟨f, z⟩
theorem StepS.lose {F2 : Forb} (s : StepS σ σ1 F F1 ρ ρ1 H H1) (al : ∀ a, F a → H a ≠ none) (h1 : ∀ a, F2 a → F1 a) (h2 : ∀ a, F1 a → F2 a ∨ H a = none) : StepS σ σ1 F F2 ρ ρ1 H H1 where
  car := ⟨s.car.rd, fun a f => s.car.fr a (h1 a f), s.car.tb⟩
  tm := fun a f n => by
    obtain ⟨e, f1, n1⟩ := s.tm a f n
    exact ⟨e, (h2 a f1).resolve_right (al a f), n1⟩
  dom := s.dom
theorem Step.lose2 {F2 : Forb} (s : Step σ F F1 ρ ρ1 H H1) (al : ∀ a, F a → H a ≠ none) (h1 : ∀ a, F2 a → F1 a) (h2 : ∀ a, F1 a → F2 a ∨ H a = none) : Step σ F F2 ρ ρ1 H H1 where
  car := ⟨s.car.rd, fun a f => s.car.fr a (h1 a f), s.car.tb⟩
  kp := fun a f => by
    rcases s.kp a f with z | z
    · exact .inl ((h2 a z).resolve_right (al a f))
    · exact .inr z
  tm := s.tm
  ow := s.ow
  dom := s.dom
  has := s.has
theorem rep_nomut {v : V} {d : PyData} : ∀ a, (SV.dat d).mut = true → v = .ref a → ¬ Z.M a ∧ ∀ j, j ≠ (0 : Nat) → ¬ OwnAt ρ σ j a := fun _ h => nomatch h
theorem qs_set {i : Nat} {s : Stmt} {t : TE} {m : ME} (hs : PS X s (tAsg t (gName i))) (ht : ∀ σ H Q, RE X W m σ H Q → t σ H Q) : QS X W s (sSet i m) := by
  refine PS.of hs fun D σ H hq => ?_
  obtain ⟨Z, F, ρ, S, k⟩ := hq
  refine ht σ H _ ⟨Z, F, ρ, S, PostS.bind0 k fun r ρ1 H1 F1 e1 S1 st1 k1 v vo nw => ?_⟩
  show D.nx (σ.set i (some v)) H1
  cases hp : parAt ρ1 i with
  | true => rw [hp] at k1; exact k1.elim
  | false =>
    rw [hp] at k1
    have go : ∀ d, (r = .dat d ∨ r = .own d) → PostS X W Z σ F ρ H D (.next (ρ1.set i (some (.dat d)))) → D.nx (σ.set i (some v)) H1 := fun d hr k2 => by
      obtain ⟨F2, S2, rp, l1, l2⟩ := give S1 vo nw hr
      exact k2 _ H1 F2 (S2.set hp rp fun _ z => nomatch z) (step_set (st1.s.lose S.al l1 l2) S.al fun _ z => nomatch z)
    cases r with
    | dat d => exact go d (.inl rfl) k1
    | own d => exact go d (.inr rfl) k1
    | bor j => exact k1.elim
    | thg o => exact k1.elim
theorem qs_own {i : Nat} {s : Stmt} {t : TE} {m : ME} (hs : PS X s (tAsg t (gName i))) (ht : ∀ σ H Q, RE X W m σ H Q → t σ H Q) : QS X W s (sOwn i m) := by
  refine PS.of hs fun D σ H hq => ?_
  obtain ⟨Z, F, ρ, S, k⟩ := hq
  refine ht σ H _ ⟨Z, F, ρ, S, PostS.bind0 k fun r ρ1 H1 F1 e1 S1 st1 k1 v vo nw => ?_⟩
  show D.nx (σ.set i (some v)) H1
  cases hp : parAt ρ1 i with
  | true => rw [hp] at k1; exact k1.elim
  | false =>
    rw [hp] at k1
    cases r with
    | dat d => exact k1.elim
    | own d =>
      obtain ⟨a, rfl, f, o, m, n⟩ := vo
      exact k1 _ H1 F1 (S1.set hp ⟨a, rfl, f, o⟩ fun b _ eb => by cases eb; exact ⟨m, fun j _ => n j⟩) (step_set st1.s S.al fun b _ eb => by cases eb; exact nw a rfl)
    | bor j => exact k1.elim
    | thg o => exact k1.elim
end
end PD

namespace PD
open PySem PySem.Spec PyProof.Rows L2
/-! ### a list or a tuple that is walked -/
def SqA (K : PySem.W.Frag) (H : Hp) (l : Bool) (a : Addr) (xs : List V) : Prop := match l with
  | true => SqL K H a xs
  | false => SqT K H a xs
def ItAt (h : Heap) (l : Bool) (it a : Addr) (i : Nat) : Prop := match l with
  | true => h.IsListIter it a i
  | false => h.IsTupleIter it a i
def IsA (h : Heap) (l : Bool) (a : Addr) (its : Array Value) : Prop := match l with
  | true => h.IsList a its
  | false => h.IsTuple a its
section
variable {X : Cx} {pins : List (Addr × Obj)} {σ : St} {H : Hp} {s : Shared} {a : Addr} {xs ys : List V} {l : Bool}
theorem sqA_of (I : Inv X pins σ H s) (h : SqA X.K H l a xs) : ∃ its : List Value, Vals xs its ∧ IsA s.heap l a its.toArray ∧ xs.length ≤ sizeLine := by
  cases l with
  | true =>
    obtain ⟨its, rv, p, z⟩ := I.list h
    exact ⟨its, rv, p.isList, z⟩
  | false =>
    obtain ⟨its, rv, p, z⟩ := I.tuple h
    exact ⟨its, rv, p, z⟩
theorem sqA_inj (I : Inv X pins σ H s) (h : SqA X.K H l a xs) (h' : SqA X.K H l a ys) : xs = ys := by
  cases l with
  | true => exact I.list_inj h h'
  | false => exact I.tuple_inj h h'
theorem draws_A {prog : Program} {w : World} {A : Around} (hh : A.handled = none) (l : Bool) (it a : Addr) (hne : a ≠ it) (items : Array Value) :
    Draws prog w A it [it, a] items.size (fun i v => items[i]? = some v) (fun i h => ItAt h l it a i ∧ IsA h l a items) := by
  cases l with
  | true => exact Draws.list hh it a hne items
  | false => exact Draws.tuple hh it a hne items
theorem itAt_obj {h : Heap} {it : Addr} {i : Nat} (x : ItAt h l it a i) : ∃ o, h.get? it = some o ∧ ∀ v, o.data ≠ .cell v := by
  cases l with
  | true => obtain ⟨o, ho, hc, hd⟩ := x; exact ⟨o, ho, fun v q => by rw [hd] at q; cases q⟩
  | false => obtain ⟨o, ho, hc, hd⟩ := x; exact ⟨o, ho, fun v q => by rw [hd] at q; cases q⟩
theorem itAt_at {h h' : Heap} {it : Addr} {i : Nat} (x : ItAt h l it a i) (k : ∀ o, h.get? it = some o → h'.get? it = some o) : ItAt h' l it a i := by
  cases l with
  | true => exact Heap.IsListIter.at x k
  | false => exact Heap.IsTupleIter.at x k
theorem isA_lt {h : Heap} {its : Array Value} (x : IsA h l a its) : a < h.objs.size := by
  cases l with
  | true => obtain ⟨o, e, _⟩ := x; exact Heap.lt_size e
  | false => obtain ⟨o, e, _⟩ := x; exact Heap.lt_size e
end
/-- enumerate: new pairs -/
def IteA (K : PySem.W.Frag) (l : Bool) (a : Addr) : It :=
  ⟨fun i H => ∃ (xs : List V) (x : V), SqA K H l a xs ∧ xs[i]? = some x, fun i H v H' => ∃ T x, v = .ref T ∧ H T = none ∧ H' = upd H T (.tup [.int (i : Nat), x]) ∧ ∀ xs, SqA K H l a xs → xs[i]? = some x, fun i H => ∃ xs : List V, SqA K H l a xs ∧ i = xs.length⟩
theorem turn_enumA {P : Program} {w : World} {K : PySem.W.Frag} {elts : List Expr} {kk : Nat} {tpos : Pos} {l : Bool} (a e it : Addr) (hei : e ≠ it) (hae : a ≠ e) (hai : a ≠ it) :
    Turn P w K (.Tuple elts kk tpos) (IteA K l a) [e, it] e (fun i h => (∃ old, IsEnum h e it (0 + (i : Int)) old) ∧ ItAt h l it a i) where
  mem := by simp
  obj := fun i h st b hb => by
    obtain ⟨⟨old, he⟩, hi⟩ := st
    have e' : b = e ∨ b = it := by simpa using hb
    rcases e' with z | z
    · rw [z]; exact ⟨_, he, fun v q => nomatch q⟩
    · rw [z]; exact itAt_obj hi
  keep := fun i h h' st k => let ⟨⟨old, he⟩, hi⟩ := st; ⟨⟨old, k e (by simp) _ he⟩, itAt_at hi fun o q => k it (by simp) o q⟩
  item := by
    intro X hP hw hK hc i pins s σ H E I hf st hg
    subst hP hw hK
    obtain ⟨xs, x, hq, hx⟩ := hg
    obtain ⟨its, rv, p, hz⟩ := sqA_of I hq
    obtain ⟨u, hu, ru⟩ := rv.get hx
    have hlt : i < its.toArray.size := by
      have := (List.getElem?_eq_some_iff.mp hu).1
      simpa using this
    have G := GoesN.enumFrom (elts := elts) (x1 := kk) (pos := tpos) 0 (draws_A (prog := X.prog) (w := X.w) (A := X.A.in1) (I.ok.hd hc) l it a hai its.toArray) e hei (by simp [hei, Ne.symm hae]) (by simp)
    refine G.goes i s _ E hlt ⟨st.1, st.2, p⟩ fun v h' tk hY st' hk htk => ?_
    obtain ⟨T, t, y, ev, hT, hy, ht⟩ := hY
    have ey : y = u := by
      have h1 : its[i]? = some y := by simpa using hy
      rw [hu] at h1; cases h1; rfl
    subst ey
    have new : ObjOk X.prog X.w (upd H T (.tup [.int (i : Nat), x])) h' T (.tup [.int (i : Nat), x]) := by
      refine ⟨by show 2 ≤ sizeLine; decide, [.int (0 + (i : Int)) t, y], .cons ⟨t, by simp⟩ (.cons ru .nil), ht⟩
    have I1 : Inv X pins σ (upd H T (.tup [.int (i : Nat), x])) { s with heap := h', toks := tk } := I.turnedNew (ch := [e, it]) hk hf hT new
    subst ev
    refine ⟨V.ref T, _, I1, rfl, ⟨T, x, rfl, I.hok.fresh hT, rfl, fun ys hy => by rw [sqA_inj I hy hq]; exact hx⟩, ⟨st'.1, st'.2.1⟩, fun b hb => ?_⟩
    have hb' : b < s.heap.objs.size := by
      have e' : b = e ∨ b = it := by simpa using hb
      obtain ⟨⟨old, he⟩, hi⟩ := st
      rcases e' with z | z
      · rw [z]; exact Heap.lt_size he
      · rw [z]; obtain ⟨o, ho, _⟩ := itAt_obj hi; exact Heap.lt_size ho
    rw [upd_ne (Nat.ne_of_lt (Nat.lt_of_lt_of_le hb' hT))]
    exact (hf b hb).1
  done := by
    intro X hP hw hK hc i pins s σ H E I hf st hg
    subst hP hw hK
    obtain ⟨xs, hq, hx⟩ := hg
    subst hx
    obtain ⟨its, rv, p, hz⟩ := sqA_of I hq
    have hl : xs.length = its.toArray.size := by simpa using rv.length
    have G := GoesN.enumFrom (elts := elts) (x1 := kk) (pos := tpos) 0 (draws_A (prog := X.prog) (w := X.w) (A := X.A.in1) (I.ok.hd hc) l it a hai its.toArray) e hei (by simp [hei, Ne.symm hae]) (by simp)
    rw [hl] at st
    refine G.stops s _ E ⟨st.1, st.2, p⟩ fun h' tk hk htk => ?_
    exact I.turnedL (ch := [e, it]) hk hf
  self := fun A i s Q E st h => let ⟨⟨_, he⟩, _⟩ := st; wpAny_pyIter_enum he h
/-- zip of two, in new pairs -/
def ItzA (K : PySem.W.Frag) (l m : Bool) (a b : Addr) : It :=
  ⟨fun i H => ∃ (xs ys : List V) (x y : V), SqA K H l a xs ∧ SqA K H m b ys ∧ xs[i]? = some x ∧ ys[i]? = some y,
    fun i H v H' => ∃ T x y, v = .ref T ∧ H T = none ∧ H' = upd H T (.tup [x, y]) ∧ (∀ xs, SqA K H l a xs → xs[i]? = some x) ∧ ∀ ys, SqA K H m b ys → ys[i]? = some y,
    fun i H => ∃ xs ys : List V, SqA K H l a xs ∧ SqA K H m b ys ∧ i = min xs.length ys.length⟩
theorem turn_zipA {P : Program} {w : World} {K : PySem.W.Frag} {elts : List Expr} {kk : Nat} {tpos : Pos} {l m : Bool} {a b z TI TO i1 i2 : Addr} (D : ZipSep2 z TI TO i1 i2 [i1, a] [i2, b]) (h1 : a ≠ i1) (h2 : b ≠ i2) :
    Turn P w K (.Tuple elts kk tpos) (ItzA K l m a b) [z, TI, TO, i1, i2] z (fun i h => IsZip h z TI TO .none ∧ IsTupOf2 h TI (.ref i1) (.ref i2) ∧ (∃ x y, IsTupOf2 h TO x y) ∧ ItAt h l i1 a i ∧ ItAt h m i2 b i) where
  mem := by simp
  obj := fun i h st c hc => by
    obtain ⟨hz, hTI, ⟨x, y, hTO⟩, e1, e2⟩ := st
    have e' : c = z ∨ c = TI ∨ c = TO ∨ c = i1 ∨ c = i2 := by simpa using hc
    rcases e' with q | q | q | q | q
    · rw [q]; exact ⟨_, hz, fun v q => nomatch q⟩
    · rw [q]; exact ⟨_, hTI, fun v q => nomatch q⟩
    · rw [q]; exact ⟨_, hTO, fun v q => nomatch q⟩
    · rw [q]; exact itAt_obj e1
    · rw [q]; exact itAt_obj e2
  keep := fun i h h' st k => by
    obtain ⟨hz, hTI, ⟨x, y, hTO⟩, e1, e2⟩ := st
    exact ⟨k z (by simp) _ hz, k TI (by simp) _ hTI, ⟨x, y, k TO (by simp) _ hTO⟩, itAt_at e1 fun o q => k i1 (by simp) o q, itAt_at e2 fun o q => k i2 (by simp) o q⟩
  item := by
    intro X hP hw hK hc i pins s σ H E I hf st hg
    subst hP hw hK
    obtain ⟨xs, ys, x, y, hqx, hqy, hx, hy⟩ := hg
    obtain ⟨its, rv, p, _⟩ := sqA_of I hqx
    obtain ⟨its2, rv2, p2, _⟩ := sqA_of I hqy
    obtain ⟨u, hu, ru⟩ := rv.get hx
    obtain ⟨u2, hu2, ru2⟩ := rv2.get hy
    have hlt : i < min its.toArray.size its2.toArray.size := by
      have q1 := (List.getElem?_eq_some_iff.mp hu).1
      have q2 := (List.getElem?_eq_some_iff.mp hu2).1
      simp only [List.size_toArray]
      omega
    have G := GoesN.zip2 (elts := elts) (x1 := kk) (pos := tpos) D (draws_A (prog := X.prog) (w := X.w) (A := X.A.in1) (I.ok.hd hc) l i1 a h1 its.toArray) (draws_A (prog := X.prog) (w := X.w) (A := X.A.in1) (I.ok.hd hc) m i2 b h2 its2.toArray)
    obtain ⟨hz, hTI, hTO, e1, e2⟩ := st
    refine G.goes i s _ E hlt ⟨hz, hTI, hTO, ⟨e1, p⟩, ⟨e2, p2⟩⟩ fun v h' tk hY st' hk htk => ?_
    obtain ⟨T, y1, y2, ev, hT, g1, g2, ht⟩ := hY
    have ey : y1 = u := by
      have q1 : its[i]? = some y1 := by simpa using g1
      rw [hu] at q1; cases q1; rfl
    have ey2 : y2 = u2 := by
      have q1 : its2[i]? = some y2 := by simpa using g2
      rw [hu2] at q1; cases q1; rfl
    subst ey ey2
    have new : ObjOk X.prog X.w (upd H T (.tup [x, y])) h' T (.tup [x, y]) := ⟨by show 2 ≤ sizeLine; decide, [y1, y2], .cons ru (.cons ru2 .nil), ht⟩
    have hk2 : ∀ c o, c ∉ [z, TI, TO, i1, i2] → s.heap.get? c = some o → h'.get? c = some o := fun c o hcm q => hk c o (fun q' => hcm (by
      have e' : c = z ∨ c = TO ∨ c = i1 ∨ c = i2 := by simpa using q'
      rcases e' with q | q | q | q <;> simp [q])) q
    have I1 : Inv X pins σ (upd H T (.tup [x, y])) { s with heap := h', toks := tk } := I.turnedNew (ch := [z, TI, TO, i1, i2]) hk2 hf hT new
    subst ev
    obtain ⟨z', TI', TO', st1, st2⟩ := st'
    refine ⟨V.ref T, _, I1, rfl, ⟨T, x, y, rfl, I.hok.fresh hT, rfl, fun q hy => by rw [sqA_inj I hy hqx]; exact hx, fun q hq => by rw [sqA_inj I hq hqy]; exact hy⟩, ⟨z', TI', TO', st1.1, st2.1⟩, fun c hcm => ?_⟩
    have hb' : c < s.heap.objs.size := by
      have e' : c = z ∨ c = TI ∨ c = TO ∨ c = i1 ∨ c = i2 := by simpa using hcm
      obtain ⟨_, _, hTO⟩ := hTO
      rcases e' with q | q | q | q | q
      · rw [q]; exact Heap.lt_size hz
      · rw [q]; exact Heap.lt_size hTI
      · rw [q]; exact Heap.lt_size hTO
      · rw [q]; obtain ⟨o, ho, _⟩ := itAt_obj e1; exact Heap.lt_size ho
      · rw [q]; obtain ⟨o, ho, _⟩ := itAt_obj e2; exact Heap.lt_size ho
    rw [upd_ne (Nat.ne_of_lt (Nat.lt_of_lt_of_le hb' hT))]
    exact (hf c hcm).1
  done := by
    intro X hP hw hK hc i pins s σ H E I hf st hg
    subst hP hw hK
    obtain ⟨xs, ys, hqx, hqy, hi⟩ := hg
    subst hi
    obtain ⟨its, rv, p, _⟩ := sqA_of I hqx
    obtain ⟨its2, rv2, p2, _⟩ := sqA_of I hqy
    have l1 : xs.length = its.toArray.size := by simpa using rv.length
    have l2 : ys.length = its2.toArray.size := by simpa using rv2.length
    have G := GoesN.zip2 (elts := elts) (x1 := kk) (pos := tpos) D (draws_A (prog := X.prog) (w := X.w) (A := X.A.in1) (I.ok.hd hc) l i1 a h1 its.toArray) (draws_A (prog := X.prog) (w := X.w) (A := X.A.in1) (I.ok.hd hc) m i2 b h2 its2.toArray)
    rw [l1, l2] at st
    obtain ⟨hz, hTI, hTO, e1, e2⟩ := st
    refine G.stops s _ E ⟨hz, hTI, hTO, ⟨e1, p⟩, ⟨e2, p2⟩⟩ fun h' tk hk htk => ?_
    have hk2 : ∀ c o, c ∉ [z, TI, TO, i1, i2] → s.heap.get? c = some o → h'.get? c = some o := fun c o hcm q => hk c o (fun q' => hcm (by
      have e' : c = z ∨ c = TO ∨ c = i1 ∨ c = i2 := by simpa using q'
      rcases e' with q | q | q | q <;> simp [q])) q
    exact I.turnedL (ch := [z, TI, TO, i1, i2]) hk2 hf
  self := fun A i s Q E st h => wpAny_pyIter_zip st.1 h

/-! ### what a loop walks, told as its items -/
structure IterOk [Tab] (K : PySem.W.Frag) (F : Forb) (H : Hp) (J : It) (ds : List D) : Prop where
  go : ∀ F1 H1, Car F F1 H H1 → ∀ i, i < ds.length → J.go i H1
  stop : ∀ F1 H1, Car F F1 H H1 → J.stop ds.length H1
  yld : ∀ F1 H1, Car F F1 H H1 → (∀ a, F1 a → H1 a ≠ none) → ∀ i x H2, i < ds.length → J.yld i H1 x H2 → (H2 = H1 ∨ ∃ T o, H1 T = none ∧ H2 = upd H1 T o) ∧ ∃ d, ds[i]? = some d ∧ Rep K F1 H2 x d
abbrev MI := Env → Out (List D)
def RI [Tab] [Zok] (X : Cx) (W : WX) (m : MI) : TI := fun σ H R => ∃ Z F ρ, SR X.K Z F ρ σ H ∧ Post X W Z σ F ρ H (fun ds ρ' F' H' => ∀ J, IterOk X.K F' H' J ds → R J H') (m ρ)
abbrev QI [Tab] [Zok] (X : Cx) (W : WX) (tg it : Expr) (m : MI) : Prop := PI X tg it (RI X W m)
theorem PI.of {X : Cx} {tg it : Expr} {t u : TI} (h : PI X tg it t) (i : ∀ σ H R, u σ H R → t σ H R) : PI X tg it u := ⟨fun pins s σ H R I hw => h.run pins s σ H R I (i _ _ _ hw)⟩
/-- what is walked, by its value: it is given away (read alone from here on) -/
def seqD : D → Option (List D)
  | .list xs => some xs
  | .tuple xs => some xs
  | _ => none
/-- a text, too: its signs -/
def seqS : D → Option (List D)
  | .list xs => some xs
  | .tuple xs => some xs
  | .str x => some (x.cps.toList.map fun c => .str ⟨#[c]⟩)
  | _ => none
def iSeq (a : ME) : MI := fun ρ => (a ρ).bind fun r ρ1 => match frz [r] with
  | some [d] => match seqS d with
    | some ds => .ok ds ρ1
    | none => .no
  | _ => .no
theorem pi_seqA {X : Cx} {tg l : Expr} {tl : TE} (hl : PE X l tl) : PI X tg l (fun σ H R => tl σ H fun x H1 => (∃ a, x = .ref a ∧ (((∃ xs, SqL X.K H1 a xs) ∧ R (Itl X.K a) H1) ∨ ((∃ xs, SqT X.K H1 a xs) ∧ R (Itt X.K a) H1))) ∨ ∃ y, x = .str y ∧ R (Its y) H1) := by
  refine ⟨fun pins s σ H R I h => ?_⟩
  refine thn (hl.run pins s σ H _ I h) fun v s1 ⟨x, H1, I1, r1, q1⟩ => ?_
  rcases q1 with ⟨a, e, q⟩ | ⟨y, e, q⟩
  rotate_left
  · subst e
    obtain ⟨t, rfl⟩ := r1
    cases ha : y.cps.all (· < 128)
    · exact wpAny_pyIter_wide ha (pi_one (tk := s1.toks) I1 _ (turn_str _ y t "str_iterator" (.inr rfl)) ⟨_, Heap.get?_push_size _ rfl, rfl, rfl⟩ q)
    · exact wpAny_pyIter_ascii ha (pi_one (tk := s1.toks) I1 _ (turn_str _ y t "str_ascii_iterator" (.inl rfl)) ⟨_, Heap.get?_push_size _ rfl, rfl, rfl⟩ q)
  subst e
  cases r1
  rcases q with ⟨⟨xs, hq⟩, q⟩ | ⟨⟨xs, hq⟩, q⟩
  · obtain ⟨its, rv, p, hz⟩ := I1.list hq
    refine wpAny_pyIter_list p.isList ?_
    refine ⟨s1.heap.objs.size, [s1.heap.objs.size], _, _, H1, rfl, I1.kept (t' := s1.toks) fun b o e => Heap.get?_push_of_some _ e, turn_list a _, ⟨_, Heap.get?_push_size _ rfl, rfl, rfl⟩, fun b hb => ?_, q⟩
    have e : b = s1.heap.objs.size := by simpa using hb
    subst e
    exact I1.fpOk (Nat.le_refl _) (I1.hok.fresh (Nat.le_refl _))
  · obtain ⟨its, rv, p, hz⟩ := I1.tuple hq
    refine wpAny_pyIter_tuple (show s1.heap.IsTuple a its.toArray from p) ?_
    refine ⟨s1.heap.objs.size, [s1.heap.objs.size], _, _, H1, rfl, I1.kept (t' := s1.toks) fun b o e => Heap.get?_push_of_some _ e, turn_tuple a _, ⟨_, Heap.get?_push_size _ rfl, rfl, rfl⟩, fun b hb => ?_, q⟩
    have e : b = s1.heap.objs.size := by simpa using hb
    subst e
    exact I1.fpOk (Nat.le_refl _) (I1.hok.fresh (Nat.le_refl _))
section
variable [Tab] [Zok] {X : Cx} {W : WX} {K : PySem.W.Frag} {F F1 : Forb} {H H1 : Hp} {v : V}
/-- a list or tuple that is data: at a, for good -/
theorem Rep.seq {d : D} {ds : List D} (r : Rep K F H v d) (e : seqD d = some ds) : ∃ l a xs, v = .ref a ∧ xs.length = ds.length ∧ ∀ F1 H1, Car F F1 H H1 → SqA K H1 l a xs ∧ RepAll K F1 H1 xs ds := by
  cases r with
  | lst n h z t => cases e; exact ⟨true, _, _, rfl, t.length, fun F1 H1 c => ⟨.inl (.inl (c.rd _ _ n nt_lst h)), t.car c⟩⟩
  | lstF n h z t => cases e; exact ⟨true, _, _, rfl, t.length, fun F1 H1 c => ⟨.inl (.inr ⟨_, c.rd _ _ n nt_frz h⟩), t.car c⟩⟩
  | tup n h z t => cases e; exact ⟨false, _, _, rfl, t.length, fun F1 H1 c => ⟨.inl (.inl (c.rd _ _ n nt_tup h)), t.car c⟩⟩
  | tupK a b e1 f g t => cases e; exact ⟨false, _, _, rfl, t.length, fun F1 H1 c => ⟨.inr ⟨_, _, _, a, b, e1, f, g⟩, t.car c⟩⟩
  | _ => cases e
theorem iter_list {a : Addr} {xs : List V} {ds : List D} (z : xs.length = ds.length) (h : ∀ F1 H1, Car F F1 H H1 → SqA K H1 true a xs ∧ RepAll K F1 H1 xs ds) : IterOk K F H (Itl K a) ds where
  go := fun F1 H1 c i hi => ⟨xs, xs[i]'(by omega), (h F1 H1 c).1, by simp [z, hi]⟩
  stop := fun F1 H1 c => ⟨xs, (h F1 H1 c).1, by omega⟩
  yld := fun F1 H1 c _ i x H2 hi y => by
    obtain ⟨e, y⟩ := y
    have hx := y xs (h F1 H1 c).1
    obtain ⟨d, h1, h2⟩ := (h F1 H1 c).2.at hx
    rw [e]
    exact ⟨.inl rfl, d, h1, h2⟩
theorem iter_tup {a : Addr} {xs : List V} {ds : List D} (z : xs.length = ds.length) (h : ∀ F1 H1, Car F F1 H H1 → SqA K H1 false a xs ∧ RepAll K F1 H1 xs ds) : IterOk K F H (Itt K a) ds where
  go := fun F1 H1 c i hi => ⟨xs, xs[i]'(by omega), (h F1 H1 c).1, by simp [z, hi]⟩
  stop := fun F1 H1 c => ⟨xs, (h F1 H1 c).1, by omega⟩
  yld := fun F1 H1 c _ i x H2 hi y => by
    obtain ⟨e, y⟩ := y
    have hx := y xs (h F1 H1 c).1
    obtain ⟨d, h1, h2⟩ := (h F1 H1 c).2.at hx
    rw [e]
    exact ⟨.inl rfl, d, h1, h2⟩
/-- behind values that are given away -/
theorem give_all {Z : Zone} {σ : St} {ρ ρ1 : Env} {F F1 : Forb} {H H1 : Hp} {vs : List V} {rs : List RV} {ds : List D} (S : SR X.K Z F ρ σ H) (S1 : SR X.K Z F1 ρ1 σ H1) (st : Step σ F F1 ρ ρ1 H H1) (vo : VsOk X.K Z F1 ρ1 σ H1 vs rs) (nw : News H vs rs) (g : frz rs = some ds) :
    ∃ F2, SR X.K Z F2 ρ1 σ H1 ∧ Step σ F F2 ρ ρ1 H H1 ∧ RepAll X.K F2 H1 vs ds := by
  obtain ⟨S2, r, hq⟩ := freeze S1 vo nw g
  exact ⟨_, S2, st.lose S.al hq, r⟩
omit [Zok] in
theorem iter_str (x : Str) : IterOk K F H (Its x) (x.cps.toList.map fun c => .str ⟨#[c]⟩) where
  go := fun F1 H1 _ i hi => by
    have h : i < x.cps.size := by simpa using hi
    exact h
  stop := fun F1 H1 _ => by
    have h : (x.cps.toList.map fun c => PyData.str ⟨#[c]⟩).length = x.cps.size := by simp
    rw [h]
    exact Nat.le_refl _
  yld := fun F1 H1 _ _ i v H2 hi y => by
    obtain ⟨e, c, hc, rfl⟩ := y
    refine ⟨.inl e, .str ⟨#[c]⟩, ?_, .str _⟩
    rw [List.getElem?_map, Array.getElem?_toList, hc]
    rfl
theorem qi_seq {tg e : Expr} {m : ME} (h : QE X W e m) : QI X W tg e (iSeq m) := by
  refine PI.of (pi_seqA h) fun σ H R hq => ?_
  obtain ⟨Z, F, ρ, S, k⟩ := hq
  refine ⟨Z, F, ρ, S, Post.bind0 k fun r ρ1 H1 F1 e1 S1 st1 k1 v vo nw => ?_⟩
  cases g : frz [r] with
  | none => rw [g] at k1; exact k1.elim
  | some ds0 =>
    rw [g] at k1
    obtain ⟨F2, S2, st2, rp⟩ := give_all S S1 st1 (.cons vo .nil) (.cons nw .nil) g
    cases rp with
    | cons r1 r2 =>
      cases r2
      rename_i d
      dsimp only at k1
      have old : ∀ ds, seqD d = some ds → seqS d = some ds → (∃ a, v = .ref a ∧ (((∃ xs, SqL X.K H1 a xs) ∧ R (Itl X.K a) H1) ∨ ((∃ xs, SqT X.K H1 a xs) ∧ R (Itt X.K a) H1))) := by
        intro ds gs g2
        rw [g2] at k1
        obtain ⟨l, a, xs, rfl, z, hh⟩ := r1.seq gs
        have k2 := k1 H1 F2 S2 st2
        cases l with
        | true => exact ⟨a, rfl, .inl ⟨⟨xs, (hh F2 H1 .refl).1⟩, k2 _ (iter_list z hh)⟩⟩
        | false => exact ⟨a, rfl, .inr ⟨⟨xs, (hh F2 H1 .refl).1⟩, k2 _ (iter_tup z hh)⟩⟩
      cases d with
      | list xs => exact .inl (old xs rfl rfl)
      | tuple xs => exact .inl (old xs rfl rfl)
      | str x =>
        cases r1
        exact .inr ⟨x, rfl, k1 H1 F2 S2 st2 _ (iter_str x)⟩
      | _ => exact k1.elim
omit [Tab] [Zok] in
/-- range -/
def rangeD (a b : Int) : List D := (List.range (b - a).toNat).map fun i => .int (a + (i : Nat))
omit [Tab] [Zok] in
def rOk (a : Int) : Bool := match a with
  | .ofNat n => Nat.ble n 4611686018427387903
  | .negSucc n => Nat.ble n 4611686018427387903
omit [Tab] [Zok] in
def iRange1 (a : MEs) : MI := fun ρ => (a ρ).bind fun rs ρ1 => match rs with
  | [.dat (.int j)] => if rOk j then .ok (rangeD 0 j) ρ1 else .no
  | _ => .no
omit [Tab] [Zok] in
def iRange2 (a : MEs) : MI := fun ρ => (a ρ).bind fun rs ρ1 => match rs with
  | [.dat (.int i), .dat (.int j)] => if rOk i && rOk j then .ok (rangeD i j) ρ1 else .no
  | _ => .no
theorem iter_range (a b : Int) : IterOk K F H (Itr a (b - a).toNat) (rangeD a b) where
  go := fun F1 H1 c i hi => by
    have h : i < (b - a).toNat := by simpa [rangeD] using hi
    exact h
  stop := fun F1 H1 c => by
    have h : (rangeD a b).length = (b - a).toNat := by simp [rangeD]
    rw [h]
    exact Nat.le_refl _
  yld := fun F1 H1 c _ i x H2 hi y => by
    obtain ⟨e, y⟩ := y
    subst y
    refine ⟨.inl e, .int (a + (i : Nat)), ?_, .int _⟩
    have hi' : i < (b - a).toNat := by simpa [rangeD] using hi
    simp [rangeD, hi']
theorem rOk_of {a : Int} (h : rOk a = true) : -(2 ^ 62) ≤ a ∧ a < 2 ^ 62 := by
  cases a with
  | ofNat n =>
    have h1 : n ≤ 4611686018427387903 := Nat.le_of_ble_eq_true h
    have e : Int.ofNat n = (n : Int) := rfl
    rw [e]
    omega
  | negSucc n =>
    have h1 : n ≤ 4611686018427387903 := Nat.le_of_ble_eq_true h
    rw [Int.negSucc_eq]
    omega
theorem ints1 {Z : Zone} {ρ : Env} {σ : St} {vs : List V} {j : Int} (h : VsOk K Z F ρ σ H vs [.dat (.int j)]) : vs = [.int j] := by
  cases h with
  | cons a b =>
    cases b
    cases (show Rep K F H _ (.int j) from a)
    rfl
theorem ints2 {Z : Zone} {ρ : Env} {σ : St} {vs : List V} {i j : Int} (h : VsOk K Z F ρ σ H vs [.dat (.int i), .dat (.int j)]) : vs = [.int i, .int j] := by
  cases h with
  | cons a b =>
    cases (show Rep K F H _ (.int i) from a)
    rw [ints1 b]
theorem qi_range1 {tg a : Expr} {m : MEs} {p pos : Pos} (hg : Gl X "range") (hm : X.mg "range" = none) (ha : QA X W [a] m) (hs : starEach [a] X.env = [(false, eval a X.env)] := by rfl) : QI X W tg (.Call (.Name "range" p) [a] [] pos) (iRange1 m) := by
  refine PI.of (pi_range1 hg hm ha hs) fun σ H R hq => ?_
  obtain ⟨Z, F, ρ, S, k⟩ := hq
  refine ⟨Z, F, ρ, S, Post.bind k fun rs ρ1 H1 F1 e1 S1 st1 k1 vs vo nw => ?_⟩
  split at k1
  · rename_i j
    split at k1
    · rename_i hj
      have e := ints1 vo
      obtain ⟨h1, h2⟩ := rOk_of hj
      refine ⟨j, e, h1, h2, ?_⟩
      have k2 := k1 H1 F1 S1 .refl
      have it := iter_range (K := X.K) (F := F1) (H := H1) 0 j
      rw [Int.sub_zero] at it
      exact k2 _ it
    · exact k1.elim
  · exact k1.elim
theorem qi_range2 {tg a b : Expr} {m : MEs} {p pos : Pos} (hg : Gl X "range") (hm : X.mg "range" = none) (ha : QA X W [a, b] m) (hs : starEach [a, b] X.env = [(false, eval a X.env), (false, eval b X.env)] := by rfl) (hs2 : starEach [b] X.env = [(false, eval b X.env)] := by rfl) :
    QI X W tg (.Call (.Name "range" p) [a, b] [] pos) (iRange2 m) := by
  refine PI.of (pi_range2 hg hm ha hs hs2) fun σ H R hq => ?_
  obtain ⟨Z, F, ρ, S, k⟩ := hq
  refine ⟨Z, F, ρ, S, Post.bind k fun rs ρ1 H1 F1 e1 S1 st1 k1 vs vo nw => ?_⟩
  split at k1
  · rename_i i j
    split at k1
    · rename_i hj
      have e := ints2 vo
      rw [Bool.and_eq_true] at hj
      obtain ⟨h1, h2⟩ := rOk_of hj.1
      obtain ⟨h3, h4⟩ := rOk_of hj.2
      exact ⟨i, j, e, ⟨h1, h2, h3, h4⟩, k1 H1 F1 S1 .refl _ (iter_range i j)⟩
    · exact k1.elim
  · exact k1.elim
omit [Tab] [Zok] in
/-- enumerate -/
def enumD : Nat → List D → List D
  | _, [] => []
  | i, d :: ds => .tuple [.int (i : Nat), d] :: enumD (i + 1) ds
omit [Tab] [Zok] in
def iEnumA (a : MEs) : MI := fun ρ => (a ρ).bind fun rs ρ1 => match frz rs with
  | some [d] => match seqD d with
    | some ds => .ok (enumD 0 ds) ρ1
    | none => .no
  | _ => .no
theorem enumD_len : ∀ (ds : List D) (i : Nat), (enumD i ds).length = ds.length
  | [], _ => rfl
  | _ :: ds, i => by simp [enumD, enumD_len ds (i + 1)]
theorem enumD_get : ∀ (ds : List D) (k i : Nat), (enumD k ds)[i]? = (ds[i]?).map fun d => .tuple [.int ((k + i : Nat) : Int), d]
  | [], _, _ => by simp [enumD]
  | d :: ds, k, 0 => by simp [enumD]
  | d :: ds, k, i + 1 => by
    have := enumD_get ds (k + 1) i
    simp only [enumD, List.getElem?_cons_succ, this]
    congr 1
    funext d
    congr 3
    omega
theorem meets_enum1 {v : Value} {o : Obj} {H : Heap → Prop} (B : Begins v o H) :
    Meets (Builtin.«enumerate.__new__» ⟨[.type "enumerate", v], []⟩) (fun _ R s => H s.heap ∧
      R (.ok (.ret (.ref (s.heap.push o).objs.size))) { s with heap := (s.heap.push o).push { cls := .type "enumerate", data := .fields #[.none, .bool false, .ref s.heap.objs.size, rawInt 0, .none, .none] } }) :=
  .of_wp fun prog w A R s h => by
    obtain ⟨hp, g, d, tk, os⟩ := s; obtain ⟨h1, h⟩ := h
    have hsub := sub_enumerate
    have q1 : ∀ {A' : Around} {E : Value → Shared → Prop} {Q : Value → Shared → Prop}, Q (.ref hp.objs.size) ⟨hp.push o, g, d, tk, os⟩ → wpAny (model prog w) A' (pyIter v) Q E ⟨hp, g, d, tk, os⟩ :=
      fun q => B.iter prog w _ _ ⟨hp, g, d, tk, os⟩ _ h1 q
    wp_walk using q1
    refine wpAny_stack_any fun st => wpAny_pure ?_
    split
    · rename_i c _ _ _ _ _
      cases (c == Value.type "enumerate")
      · wp_walk using q1
        exact ⟨_, rfl, h⟩
      · wp_walk using q1
        exact ⟨_, rfl, h⟩
    · wp_walk using q1
      exact ⟨_, rfl, h⟩
theorem call_enum1 {prog : Program} {w : World} {A : Around} {E : Value → Shared → Prop} {s : Shared} {v : Value} {o : Obj} {H : Heap → Prop} {Q : Value → Shared → Prop} (B : Begins v o H) (h1 : H s.heap)
    (h : ∀ h', IsEnum h' (s.heap.objs.size + 1) s.heap.objs.size 0 .none → h'.get? s.heap.objs.size = some o → (∀ b o, s.heap.get? b = some o → h'.get? b = some o) → Q (.ref (s.heap.objs.size + 1)) { s with heap := h' }) :
    wpAny (model prog w) A (call (.type "enumerate") [v]) Q E s := by
  refine callType_new F.called_enumerate (by decide) (F.typeCall_enumerate_1 _) (F.newCall_enumerate_1 _) (fun obj => F.args_object_init_2 obj _) F.entry_enumerate_new
    (meets_enum1 B) ⟨h1, ?_⟩
  have hz : (s.heap.push o).objs.size = s.heap.objs.size + 1 := Heap.size_push ..
  show _ ∧ _
  rw [hz]
  have he : IsEnum ((s.heap.push o).push { cls := .type "enumerate", data := .fields #[.none, .bool false, .ref s.heap.objs.size, rawInt 0, .none, .none] }) (s.heap.objs.size + 1) s.heap.objs.size 0 .none := by
    have := Heap.get?_push_size (s.heap.push o) (o := { cls := .type "enumerate", data := .fields #[.none, .bool false, .ref s.heap.objs.size, rawInt 0, .none, .none] }) rfl
    rw [hz] at this; exact this
  refine ⟨⟨_, he, rfl⟩, h _ he (Heap.get?_push_of_some _ (Heap.get?_push_size _ B.free)) fun b o x => Heap.get?_push_of_some _ (Heap.get?_push_of_some _ x)⟩
theorem begins_A (l : Bool) (a : Addr) (its : Array Value) : ∃ o, Begins (.ref a) o (fun h => IsA h l a its) ∧ ∀ (h : Heap) (it : Addr), h.get? it = some o → ItAt h l it a 0 := by
  cases l with
  | true => exact ⟨_, begins_list a its, fun h it e => ⟨_, e, rfl, rfl⟩⟩
  | false => exact ⟨_, begins_tuple a its, fun h it e => ⟨_, e, rfl, rfl⟩⟩
theorem pi_enumA {e : Expr} {ta : TA} {p pos tpos : Pos} {elts : List Expr} {kk : Nat} (hg : Gl X "enumerate") (hm : X.mg "enumerate" = none) (ha : PA X [e] ta) (hs : starEach [e] X.env = [(false, eval e X.env)] := by rfl) :
    PI X (.Tuple elts kk tpos) (.Call (.Name "enumerate" p) [e] [] pos) (fun σ H R => ta σ H fun vs H1 => ∃ l a xs, vs = [.ref a] ∧ SqA X.K H1 l a xs ∧ R (IteA X.K l a) H1) := by
  refine ⟨fun pins s σ H R I h => ?_⟩
  refine Call_ (ld_blt I hg hm boot_enumerate (PyProof.Rows.callWith_type1 (thn (ha.run pos pins s σ H _ I h) fun us s1 ⟨vs, H1, I1, r1, q1⟩ => ?_) hs rfl))
  obtain ⟨l, a, xs, ex, hq, q⟩ := q1
  subst ex
  cases r1 with
  | cons r rr =>
    cases rr
    cases r
    obtain ⟨its, rv, p', hz⟩ := sqA_of I1 hq
    have hal := isA_lt p'
    have fin : ∀ (h' : Heap), IsEnum h' (s1.heap.objs.size + 1) s1.heap.objs.size 0 .none → ItAt h' l s1.heap.objs.size a 0 → (∀ b o, s1.heap.get? b = some o → h'.get? b = some o) →
        wpAny (model X.prog X.w) X.A (pyIter (.ref (s1.heap.objs.size + 1))) (PIE X pins σ (.Tuple elts kk tpos) R) X.xe { s1 with heap := h' } := fun h' he hit hk => by
      refine wpAny_pyIter_enum he ?_
      have I2 : Inv X pins σ H1 { s1 with heap := h' } := I1.kept (t' := s1.toks) hk
      refine ⟨s1.heap.objs.size + 1, [s1.heap.objs.size + 1, s1.heap.objs.size], _, _, H1, rfl, I2, turn_enumA (l := l) a (s1.heap.objs.size + 1) s1.heap.objs.size (Nat.succ_ne_self _) (Nat.ne_of_lt (Nat.lt_succ_of_lt hal)) (Nat.ne_of_lt hal), ⟨⟨.none, by simpa using he⟩, hit⟩, fun b hb => ?_, q⟩
      have e' : b = s1.heap.objs.size + 1 ∨ b = s1.heap.objs.size := by simpa using hb
      have hle : s1.heap.objs.size ≤ b := by
        rcases e' with z | z
        · rw [z]; exact Nat.le_add_right _ _
        · rw [z]; exact Nat.le_refl _
      exact I1.fpOk hle (I1.hok.fresh hle)
    obtain ⟨o1, B1, it1⟩ := begins_A l a its.toArray
    exact call_enum1 B1 p' fun h' he hit hk => fin h' he (it1 _ _ hit) hk
theorem iter_enum {l : Bool} {a : Addr} {xs : List V} {ds : List D} (z : xs.length = ds.length) (h : ∀ F1 H1, Car F F1 H H1 → SqA K H1 l a xs ∧ RepAll K F1 H1 xs ds) : IterOk K F H (IteA K l a) (enumD 0 ds) where
  go := fun F1 H1 c i hi => ⟨xs, xs[i]'(by rw [enumD_len] at hi; omega), (h F1 H1 c).1, by rw [enumD_len] at hi; simp [z, hi]⟩
  stop := fun F1 H1 c => ⟨xs, (h F1 H1 c).1, by rw [enumD_len]; omega⟩
  yld := fun F1 H1 c al i x H2 hi y => by
    obtain ⟨T, x', ex, n, e, y⟩ := y
    have hx := y xs (h F1 H1 c).1
    obtain ⟨d, h1, h2⟩ := (h F1 H1 c).2.at hx
    subst ex e
    refine ⟨.inr ⟨T, _, n, rfl⟩, .tuple [.int (i : Nat), d], ?_, .tup (fun f => al T f n) upd_same (by show 2 ≤ sizeLine; decide) ?_⟩
    · rw [enumD_get, h1, Nat.zero_add]
      rfl
    · have cc : Car F1 F1 H1 (upd H1 T (.tup [.int (i : Nat), x'])) := ⟨fun a u _ _ e => same_new n a u e, fun a f => .inl f, fun t => t.ext (same_new n)⟩
      exact .cons (.int _) (.cons (h2.car cc) .nil)
theorem qi_enum {e : Expr} {m : MEs} {p pos tpos : Pos} {elts : List Expr} {kk : Nat} (hg : Gl X "enumerate") (hm : X.mg "enumerate" = none) (ha : QA X W [e] m) (hs : starEach [e] X.env = [(false, eval e X.env)] := by rfl) :
    QI X W (.Tuple elts kk tpos) (.Call (.Name "enumerate" p) [e] [] pos) (iEnumA m) := by
  refine PI.of (pi_enumA hg hm ha hs) fun σ H R hq => ?_
  obtain ⟨Z, F, ρ, S, k⟩ := hq
  refine ⟨Z, F, ρ, S, Post.bind0 k fun rs ρ1 H1 F1 e1 S1 st1 k1 vs vo nw => ?_⟩
  cases g : frz rs with
  | none => rw [g] at k1; exact k1.elim
  | some ds0 =>
    rw [g] at k1
    obtain ⟨F2, S2, st2, rp⟩ := give_all S S1 st1 vo nw g
    split at k1
    · rename_i d e0
      cases e0
      cases rp with
      | cons r1 r2 =>
        cases r2
        cases gs : seqD d with
        | none => rw [gs] at k1; exact k1.elim
        | some ds =>
          rw [gs] at k1
          obtain ⟨l, a, xs, rfl, z, hh⟩ := r1.seq gs
          exact ⟨l, a, xs, rfl, (hh F2 H1 .refl).1, k1 H1 F2 S2 st2 _ (iter_enum z hh)⟩
    · exact k1.elim
omit [Tab] [Zok] in
/-- zip -/
def zipD : List D → List D → List D
  | d :: ds, e :: es => .tuple [d, e] :: zipD ds es
  | _, _ => []
omit [Tab] [Zok] in
def iZipA (a : MEs) : MI := fun ρ => (a ρ).bind fun rs ρ1 => match frz rs with
  | some [d, e] => match seqD d, seqD e with
    | some ds, some es => .ok (zipD ds es) ρ1
    | _, _ => .no
  | _ => .no
theorem zipD_len : ∀ (ds es : List D), (zipD ds es).length = min ds.length es.length
  | [], _ => by simp [zipD]
  | _ :: _, [] => by simp [zipD]
  | _ :: ds, _ :: es => by simp [zipD, zipD_len ds es]
theorem zipD_get : ∀ (ds es : List D) (i : Nat) (d e : D), ds[i]? = some d → es[i]? = some e → (zipD ds es)[i]? = some (.tuple [d, e])
  | [], _, _, _, _, h, _ => by simp at h
  | _ :: _, [], _, _, _, _, h => by simp at h
  | _ :: _, _ :: _, 0, _, _, h, h2 => by simp at h h2; subst h h2; rfl
  | _ :: ds, _ :: es, i + 1, d, e, h, h2 => by
    simp only [zipD, List.getElem?_cons_succ] at h h2 ⊢
    exact zipD_get ds es i d e h h2
theorem pi_zipG {e e2 : Expr} {ta : TA} {p pos tpos : Pos} {elts : List Expr} {kk : Nat} (hg : Gl X "zip") (hm : X.mg "zip" = none) (ha : PA X [e, e2] ta)
    (hs : starEach [e, e2] X.env = (false, eval e X.env) :: starEach [e2] X.env := by rfl) (hpl : (backTo pos (starEach [e2] X.env)).any (·.1) = false := by rfl) :
    PI X (.Tuple elts kk tpos) (.Call (.Name "zip" p) [e, e2] [] pos) (fun σ H R => ta σ H fun vs H1 => ∃ l m a b xs ys, vs = [.ref a, .ref b] ∧ SqA X.K H1 l a xs ∧ SqA X.K H1 m b ys ∧ R (ItzA X.K l m a b) H1) := by
  refine ⟨fun pins s σ H R I h => ?_⟩
  refine Call_ (ld_blt I hg hm PyProof.Rows.boot_zip (PyProof.Rows.callWith_type1 (thn (ha.run pos pins s σ H _ I h) fun us s1 ⟨vs, H1, I1, r1, q1⟩ => ?_) hs hpl))
  obtain ⟨l, m, a, b, xs, ys, ex, hqx, hqy, q⟩ := q1
  subst ex
  cases r1 with
  | cons r rr =>
    cases rr with
    | cons r' rr =>
      cases rr
      cases r
      cases r'
      obtain ⟨its, rv, p1, _⟩ := sqA_of I1 hqx
      obtain ⟨its2, rv2, p2, _⟩ := sqA_of I1 hqy
      have la := isA_lt p1
      have lb := isA_lt p2
      obtain ⟨o1, B1, it1⟩ := begins_A l a its.toArray
      obtain ⟨o2, B2, it2⟩ := begins_A m b its2.toArray
      refine zip_begins2 B1 B2 p1 p2 fun h' hz hTI hTO g1 g2 hsz hk => wpAny_pyIter_zip hz ?_
      have I2 : Inv X pins σ H1 { s1 with heap := h' } := I1.kept (t' := s1.toks) hk
      refine ⟨s1.heap.objs.size + 4, [s1.heap.objs.size + 4, s1.heap.objs.size + 2, s1.heap.objs.size + 3, s1.heap.objs.size, s1.heap.objs.size + 1], _, _, H1, rfl, I2,
        turn_zipA (l := l) (m := m) (zip_sep2 (N := s1.heap.objs.size) (fp1 := [a]) (fp2 := [b]) (by simpa using la) (by simpa using lb)) (Nat.ne_of_lt la) (Nat.ne_of_lt (Nat.lt_succ_of_lt lb)), ⟨hz, hTI, ⟨_, _, hTO⟩, it1 _ _ g1, it2 _ _ g2⟩, fun c hcm => ?_, q⟩
      have e' : c = s1.heap.objs.size + 4 ∨ c = s1.heap.objs.size + 2 ∨ c = s1.heap.objs.size + 3 ∨ c = s1.heap.objs.size ∨ c = s1.heap.objs.size + 1 := by simpa using hcm
      have hle : s1.heap.objs.size ≤ c := by
        rcases e' with z | z | z | z | z
        · rw [z]; exact Nat.le_add_right _ _
        · rw [z]; exact Nat.le_add_right _ _
        · rw [z]; exact Nat.le_add_right _ _
        · rw [z]; exact Nat.le_refl _
        · rw [z]; exact Nat.le_add_right _ _
      exact I1.fpOk hle (I1.hok.fresh hle)
theorem iter_zip {l m : Bool} {a b : Addr} {xs ys : List V} {ds es : List D} (z : xs.length = ds.length) (z2 : ys.length = es.length) (h : ∀ F1 H1, Car F F1 H H1 → SqA K H1 l a xs ∧ RepAll K F1 H1 xs ds) (h2 : ∀ F1 H1, Car F F1 H H1 → SqA K H1 m b ys ∧ RepAll K F1 H1 ys es) :
    IterOk K F H (ItzA K l m a b) (zipD ds es) where
  go := fun F1 H1 c i hi => by
    rw [zipD_len] at hi
    exact ⟨xs, ys, xs[i]'(by omega), ys[i]'(by omega), (h F1 H1 c).1, (h2 F1 H1 c).1, by simp, by simp⟩
  stop := fun F1 H1 c => ⟨xs, ys, (h F1 H1 c).1, (h2 F1 H1 c).1, by rw [zipD_len]; omega⟩
  yld := fun F1 H1 c al i x H2 hi y => by
    obtain ⟨T, x1, x2, ex, n, e, y1, y2⟩ := y
    obtain ⟨d, g1, g2⟩ := (h F1 H1 c).2.at (y1 xs (h F1 H1 c).1)
    obtain ⟨d2, g3, g4⟩ := (h2 F1 H1 c).2.at (y2 ys (h2 F1 H1 c).1)
    subst ex e
    have cc : Car F1 F1 H1 (upd H1 T (.tup [x1, x2])) := ⟨fun a u _ _ e => same_new n a u e, fun a f => .inl f, fun t => t.ext (same_new n)⟩
    exact ⟨.inr ⟨T, _, n, rfl⟩, .tuple [d, d2], zipD_get ds es i d d2 g1 g3, .tup (fun f => al T f n) upd_same (by show 2 ≤ sizeLine; decide) (.cons (g2.car cc) (.cons (g4.car cc) .nil))⟩
theorem qi_zip {e e2 : Expr} {m : MEs} {p pos tpos : Pos} {elts : List Expr} {kk : Nat} (hg : Gl X "zip") (hm : X.mg "zip" = none) (ha : QA X W [e, e2] m)
    (hs : starEach [e, e2] X.env = (false, eval e X.env) :: starEach [e2] X.env := by rfl) (hpl : (backTo pos (starEach [e2] X.env)).any (·.1) = false := by rfl) : QI X W (.Tuple elts kk tpos) (.Call (.Name "zip" p) [e, e2] [] pos) (iZipA m) := by
  refine PI.of (pi_zipG hg hm ha hs hpl) fun σ H R hq => ?_
  obtain ⟨Z, F, ρ, S, k⟩ := hq
  refine ⟨Z, F, ρ, S, Post.bind0 k fun rs ρ1 H1 F1 e1 S1 st1 k1 vs vo nw => ?_⟩
  cases g : frz rs with
  | none => rw [g] at k1; exact k1.elim
  | some ds0 =>
    rw [g] at k1
    obtain ⟨F2, S2, st2, rp⟩ := give_all S S1 st1 vo nw g
    split at k1
    · rename_i d d2 e0
      cases e0
      cases rp with
      | cons r1 r2 =>
        cases r2 with
        | cons r2 r3 =>
          cases r3
          cases gs : seqD d with
          | none => rw [gs] at k1; exact k1.elim
          | some ds =>
            cases gs2 : seqD d2 with
            | none => rw [gs, gs2] at k1; exact k1.elim
            | some es =>
              rw [gs, gs2] at k1
              obtain ⟨l, a, xs, rfl, z, hh⟩ := r1.seq gs
              obtain ⟨m', b, ys, rfl, z2, hh2⟩ := r2.seq gs2
              exact ⟨l, m', a, b, xs, ys, rfl, (hh F2 H1 .refl).1, (hh2 F2 H1 .refl).1, k1 H1 F2 S2 st2 _ (iter_zip z z2 hh hh2)⟩
    · exact k1.elim
end
end PD

namespace PD
open PySem PySem.Spec PyProof.Rows L2
/-! ### targets -/
abbrev MT := D → Env → Option Env
def tName (i : Nat) : MT := fun d ρ => if parAt ρ i then none else some (ρ.set i (some (.dat d)))
def tgts : List MT → List D → Env → Option Env
  | [], [], ρ => some ρ
  | t :: ts, d :: ds, ρ => (t d ρ).bind (tgts ts ds)
  | _, _, _ => none
def tTup (ts : List MT) : MT := fun d ρ => match d with
  | .tuple ds => tgts ts ds ρ
  | .list ds => tgts ts ds ρ
  | _ => none
/-- all but the slots at js are as they were -/
def Same2 (js : List Nat) (σ σ' : St) : Prop := σ'.length = σ.length ∧ ∀ j, j ∉ js → σ'[j]? = σ[j]?
theorem Same2.refl {js : List Nat} {σ : St} : Same2 js σ σ := ⟨rfl, fun _ _ => rfl⟩
theorem Same2.trans {js : List Nat} {σ σ1 σ2 : St} (a : Same2 js σ σ1) (b : Same2 js σ1 σ2) : Same2 js σ σ2 := ⟨b.1.trans a.1, fun j h => (b.2 j h).trans (a.2 j h)⟩
theorem Same2.mono {js ks : List Nat} {σ σ1 : St} (a : Same2 js σ σ1) (h : ∀ j ∈ js, j ∈ ks) : Same2 ks σ σ1 := ⟨a.1, fun j hj => a.2 j fun z => hj (h j z)⟩
/-- from one state to a later one, slots may have been stored -/
structure StepO [Tab] (σ σ' : St) (F F' : Forb) (ρ ρ' : Env) (H H' : Hp) : Prop where
  car : Car F F' H H'
  kp : ∀ a, F a → F' a ∨ ∃ i, OwnAt ρ σ i a ∧ ¬ OwnAt ρ' σ' i a
  tm : ∀ a, F a → (∀ i, ¬ OwnAt ρ σ i a) → H' a = H a
  ow : ∀ i a, OwnAt ρ' σ' i a → OwnAt ρ σ i a
  dom : ∀ a, H a ≠ none → H' a ≠ none
theorem Step.o [Tab] {σ : St} {F F' : Forb} {ρ ρ' : Env} {H H' : Hp} (s : Step σ F F' ρ ρ' H H') : StepO σ σ F F' ρ ρ' H H' := ⟨s.car, s.kp, s.tm, s.ow, s.dom⟩
theorem StepO.refl [Tab] {σ : St} {F : Forb} {ρ : Env} {H : Hp} : StepO σ σ F F ρ ρ H H := Step.refl.o
theorem StepO.trans [Tab] {σ σ1 σ2 : St} {F F1 F2 : Forb} {ρ ρ1 ρ2 : Env} {H H1 H2 : Hp} (a : StepO σ σ1 F F1 ρ ρ1 H H1) (b : StepO σ1 σ2 F1 F2 ρ1 ρ2 H1 H2) : StepO σ σ2 F F2 ρ ρ2 H H2 where
  car := a.car.trans b.car a.dom
  kp := fun x f => by
    rcases a.kp x f with z | ⟨i, z1, z2⟩
    · rcases b.kp x z with y | ⟨i, y1, y2⟩
      · exact .inl y
      · exact .inr ⟨i, a.ow _ _ y1, y2⟩
    · exact .inr ⟨i, z1, fun y => z2 (b.ow _ _ y)⟩
  tm := fun x f n => by
    have n1 : ∀ i, ¬ OwnAt ρ1 σ1 i x := fun i o => n i (a.ow _ _ o)
    have f1 : F1 x := by
      rcases a.kp x f with z | ⟨i, z1, _⟩
      · exact z
      · exact absurd z1 (n i)
    rw [b.tm x f1 n1, a.tm x f n]
  ow := fun i x o => a.ow _ _ (b.ow _ _ o)
  dom := fun x h => b.dom x (a.dom x h)
theorem StepO.s [Tab] {σ σ' : St} {F F' : Forb} {ρ ρ' : Env} {H H' : Hp} (s : StepO σ σ' F F' ρ ρ' H H') : StepS σ σ' F F' ρ ρ' H H' where
  car := s.car
  tm := fun a f n => by
    refine ⟨s.tm a f n, ?_, fun i o => n i (s.ow i a o)⟩
    rcases s.kp a f with z | ⟨i, z, _⟩
    · exact z
    · exact absurd z (n i)
  dom := s.dom
/-- the reading of a store into a target: v, told as d -/
def RG [Tab] [Zok] (X : Cx) (js : List Nat) (t : MT) : TG := fun v σ H Q => ∃ Z F ρ d ρ', SR X.K Z F ρ σ H ∧ Rep X.K F H v d ∧ t d ρ = some ρ' ∧ ∀ σ', SR X.K Z F ρ' σ' H → StepO σ σ' F F ρ ρ' H H → Same2 js σ σ' → (∀ j, slotD ρ j ≠ none → slotD ρ' j ≠ none) → Q σ' H
def RGs [Tab] [Zok] (X : Cx) (js : List Nat) (ts : List MT) : TGs := fun vs σ H Q => ∃ Z F ρ ds ρ', SR X.K Z F ρ σ H ∧ RepAll X.K F H vs ds ∧ tgts ts ds ρ = some ρ' ∧ ∀ σ', SR X.K Z F ρ' σ' H → StepO σ σ' F F ρ ρ' H H → Same2 js σ σ' → (∀ j, slotD ρ j ≠ none → slotD ρ' j ≠ none) → Q σ' H
abbrev QG [Tab] [Zok] (X : Cx) (tg : Expr) (js : List Nat) (t : MT) : Prop := PG X tg (RG X js t)
abbrev QGs [Tab] [Zok] (X : Cx) (tgs : List Expr) (js : List Nat) (ts : List MT) : Prop := PGs X tgs (RGs X js ts)
theorem PG.of {X : Cx} {e : Expr} {t u : TG} (h : PG X e t) (i : ∀ v σ H Q, u v σ H Q → t v σ H Q) : PG X e u := ⟨fun pins s σ H v w Q I r hw => h.run pins s σ H v w Q I r (i _ _ _ _ hw)⟩
theorem PGs.of {X : Cx} {e : List Expr} {t u : TGs} (h : PGs X e t) (i : ∀ v σ H Q, u v σ H Q → t v σ H Q) : PGs X e u := ⟨fun pins s σ H v w Q I r hw => h.run pins s σ H v w Q I r (i _ _ _ _ hw)⟩
section
variable [Tab] [Zok] {X : Cx} {W : WX} {K : PySem.W.Frag} {Z : Zone} {σ σ1 : St} {F F1 : Forb} {ρ ρ1 : Env} {H H1 : Hp}
theorem slotD_set {i j : Nat} {d : D} (h : slotD ρ j ≠ none) : slotD (ρ.set i (some (.dat d))) j ≠ none := by
  unfold slotD at h ⊢
  by_cases e : i = j
  · subst e
    by_cases hl : i < ρ.length
    · rw [List.getElem?_set_self hl]; exact fun z => nomatch z
    · rw [List.getElem?_eq_none (by omega)] at h; exact absurd rfl h
  · rw [List.getElem?_set_ne e]; exact h
theorem qg_name {e : Expr} {i : Nat} {js : List Nat} (h : PG X e (gName i)) (hi : i ∈ js) : QG X e js (tName i) := by
  refine PG.of h fun v σ H Q hq => ?_
  obtain ⟨Z, F, ρ, d, ρ', S, r, e, k⟩ := hq
  unfold tName at e
  split at e
  · cases e
  · rename_i np
    cases e
    have np' : parAt ρ i = false := by simpa using np
    refine k _ (S.set np' r fun _ z => nomatch z) ⟨.refl, fun a f => .inl f, fun _ _ _ => rfl, fun j a o => ?_, fun _ h => h⟩ ⟨by simp, fun j hj => ?_⟩ fun j h => ?_
    · rcases o.of_set with ⟨_, m, _⟩ | ⟨_, o⟩
      · cases m
      · exact o
    · exact List.getElem?_set_ne fun z => hj (by rw [← z]; exact hi)
    · exact slotD_set h
theorem qgs_nil {js : List Nat} : QGs X [] js [] := by
  refine PGs.of pgs_nil fun vs σ H Q hq => ?_
  obtain ⟨Z, F, ρ, ds, ρ', S, r, e, k⟩ := hq
  cases r with
  | nil => cases e; exact ⟨rfl, k σ S .refl .refl fun _ h => h⟩
  | cons _ _ => cases e
theorem qgs_cons {e : Expr} {es : List Expr} {js : List Nat} {t : MT} {ts : List MT} (h1 : QG X e js t) (h2 : QGs X es js ts) (hs : (assignEach (e :: es) X.env).map (·.2) = assign e X.env :: (assignEach es X.env).map (·.2) := by rfl) : QGs X (e :: es) js (t :: ts) := by
  refine PGs.of (pgs_cons h1 h2 hs) fun vs σ H Q hq => ?_
  obtain ⟨Z, F, ρ, ds, ρ', S, r, e, k⟩ := hq
  cases r with
  | nil => cases e
  | cons r1 r2 =>
    rename_i v vr d dr
    unfold tgts at e
    cases g : t d ρ with
    | none => rw [g] at e; cases e
    | some ρ1 =>
      rw [g] at e
      refine ⟨_, _, rfl, Z, F, ρ, d, ρ1, S, r1, g, fun σ1 S1 st1 sm1 h1 => ⟨Z, F, ρ1, dr, ρ', S1, r2, e, fun σ2 S2 st2 sm2 h2 => k σ2 S2 (st1.trans st2) (sm1.trans sm2) fun j h => h2 j (h1 j h)⟩⟩
omit [Tab] [Zok] in
theorem pg_or {e : Expr} {t1 t2 : TG} (h1 : PG X e t1) (h2 : PG X e t2) : PG X e (fun v σ H Q => t1 v σ H Q ∨ t2 v σ H Q) :=
  ⟨fun pins s σ H v u Q I r hw => hw.elim (fun q => h1.run pins s σ H v u Q I r q) fun q => h2.run pins s σ H v u Q I r q⟩
theorem qg_tup {es : List Expr} {kk : Nat} {pos : Pos} {n : Nat} {js : List Nat} {ts : List MT} (hc : X.calm = true) (h : QGs X es js ts) (ht : ts.length = n)
    (hn : (assignEach es X.env).length = n := by rfl) (hst : (assignEach es X.env).findIdx? (·.1) = none := by rfl) : QG X (.Tuple es kk pos) js (tTup ts) := by
  refine PG.of (pg_or (pg_tup hc h hn hst) (pg_lst hc h hn hst)) fun v σ H Q hq => ?_
  obtain ⟨Z, F, ρ, d, ρ', S, r, e, k⟩ := hq
  have hl : ∀ (ts : List MT) (ds : List D) (ρ ρ' : Env), tgts ts ds ρ = some ρ' → ds.length = ts.length := by
    intro ts
    induction ts with
    | nil =>
      intro ds ρ ρ' e
      cases ds with
      | nil => rfl
      | cons _ _ => cases e
    | cons t ts ih =>
      intro ds ρ ρ' e
      cases ds with
      | nil => cases e
      | cons d ds =>
        unfold tgts at e
        cases g : t d ρ with
        | none => rw [g] at e; cases e
        | some ρ1 => rw [g] at e; simp [ih ds ρ1 ρ' e]
  cases d with
  | tuple ds =>
    have r0 := r
    have e' : tgts ts ds ρ = some ρ' := e
    cases r with
    | tup n0 h0 z t => exact .inl ⟨_, _, rfl, .inl (.inl h0), by rw [t.length, hl ts ds ρ ρ' e', ht], Z, F, ρ, ds, ρ', S, t, e', k⟩
    | tupK a b e1 f g t => exact .inl ⟨_, _, rfl, .inr ⟨_, _, _, a, b, e1, f, g⟩, by rw [t.length, hl ts ds ρ ρ' e', ht], Z, F, ρ, ds, ρ', S, t, e', k⟩
  | list ds =>
    have r0 := r
    have e' : tgts ts ds ρ = some ρ' := e
    cases r with
    | lst n0 h0 z t => exact .inr ⟨_, _, rfl, .inl (.inl h0), by rw [t.length, hl ts ds ρ ρ' e', ht], Z, F, ρ, ds, ρ', S, t, e', k⟩
    | lstF n0 h0 z t => exact .inr ⟨_, _, rfl, .inl (.inr ⟨_, h0⟩), by rw [t.length, hl ts ds ρ ρ' e', ht], Z, F, ρ, ds, ρ', S, t, e', k⟩
  | _ => cases e

/-! ### a = b, a, b = c by targets -/
omit [Tab] [Zok] in
/-- a value stored into a target as data -/
def sTgt (t : MT) (m : ME) : MS := fun ρ => (m ρ).bindS fun r ρ1 => match frz [r] with
  | some [d] => match t d ρ1 with
    | some ρ2 => .next ρ2
    | none => .no
  | _ => .no
theorem qs_tgt {s : Stmt} {m : ME} {js : List Nat} {t : MT} (he : PS X s (tAsg (RE X W m) (RG X js t))) : QS X W s (sTgt t m) := by
  refine PS.of he fun D σ H hq => ?_
  obtain ⟨Z, F, ρ, S, k⟩ := hq
  refine ⟨Z, F, ρ, S, PostS.bind0 k fun r ρ1 H1 F1 e1 S1 st1 k1 v vo nw => ?_⟩
  cases g : frz [r] with
  | none => rw [g] at k1; exact k1.elim
  | some ds =>
    rw [g] at k1
    obtain ⟨F2, S2, st2, rp⟩ := give_all S S1 st1 (.cons vo .nil) (.cons nw .nil) g
    cases rp with
    | cons r1 r2 =>
      cases r2
      rename_i d
      dsimp only at k1
      cases gt : t d ρ1 with
      | none => rw [gt] at k1; exact k1.elim
      | some ρ2 =>
        rw [gt] at k1
        exact ⟨Z, F2, ρ1, d, ρ2, S2, r1, gt, fun σ' S3 st3 _ _ => k1 σ' H1 F2 S3 (st2.s.trans st3.s)⟩

/-! ### for -/
omit [Tab] [Zok] in
def forLoop (t : MT) (b : MS) : List D → Env → SO
  | [], ρ => .next ρ
  | d :: ds, ρ => match t d ρ with
    | none => .no
    | some ρ1 => match b ρ1 with
      | .next ρ2 => forLoop t b ds ρ2
      | .cont ρ2 => forLoop t b ds ρ2
      | .brk ρ2 => .next ρ2
      | o => o
omit [Tab] [Zok] in
def sFor (m : MI) (t : MT) (b : MS) : MS := fun ρ => (m ρ).bindS fun ds ρ1 => forLoop t b ds ρ1
theorem SR.yielded {H2 : Hp} (S : SR K Z F ρ σ H) (h : H2 = H ∨ ∃ T o, H T = none ∧ H2 = upd H T o) : SR K Z F ρ σ H2 ∧ Step σ F F ρ ρ H H2 := by
  rcases h with rfl | ⟨T, o, n, rfl⟩
  · exact ⟨S, .refl⟩
  · exact S.new n
theorem qs_for {tg it : Expr} {body : List Stmt} {m : MI} {t : MT} {js : List Nat} {b : MS} {pos : Pos} (hp : PassesOwn (model X.prog X.w) X.A X.env X.xe) (hc : X.calm = true) (hi : QI X W tg it m) (hg : QG X tg js t) (hb : QB X W body b) (hs : ∀ x, foldedSetIterable it X.env x = pure x := by intro _; rfl) : QS X W (.For tg it body [] pos) (sFor m t b) := by
  refine PS.of (ps_for hp hc hi hg hb (hs := hs)) fun D σ H hq => ?_
  obtain ⟨Z, F, ρ, S, k⟩ := hq
  refine ⟨Z, F, ρ, S, PostS.bind k fun ds ρ1 H1 F1 e1 S1 st1 k1 J it => ?_⟩
  refine ⟨fun i n σ' H' => n = ds.length - i ∧ i ≤ ds.length ∧ ∃ F' ρ', SR X.K Z F' ρ' σ' H' ∧ Car F1 F' H1 H' ∧ (∀ a, H1 a ≠ none → H' a ≠ none) ∧ PostS X W Z σ' F' ρ' H' D (forLoop t b (ds.drop i) ρ'), ⟨ds.length, by simp, Nat.zero_le _, F1, ρ1, S1, .refl, fun _ h => h, by simpa using k1⟩, ?_⟩
  rintro i n σ' H' ⟨rfl, hi, F', ρ', S', c', dm', k'⟩
  by_cases hlt : i < ds.length
  · refine .inr ⟨it.go F' H' c' i hlt, fun σ3 H3 => ∃ F3 ρ3, SR X.K Z F3 ρ3 σ3 H3 ∧ Car F1 F3 H1 H3 ∧ (∀ a, H1 a ≠ none → H3 a ≠ none) ∧ PostS X W Z σ3 F3 ρ3 H3 D (forLoop t b (ds.drop (i + 1)) ρ3), fun σ3 H3 h3 => ⟨ds.length - (i + 1), by omega, rfl, hlt, h3⟩, fun x H2 y => ?_⟩
    obtain ⟨hH, d, hd, rp⟩ := it.yld F' H' c' S'.al i x H2 hlt y
    obtain ⟨S2, st2⟩ := S'.yielded hH
    have hdrop : ds.drop i = d :: ds.drop (i + 1) := by
      obtain ⟨h1, h2⟩ := List.getElem?_eq_some_iff.mp hd
      rw [← h2]
      exact List.drop_eq_getElem_cons h1
    rw [hdrop] at k'
    unfold forLoop at k'
    cases gt : t d ρ' with
    | none => rw [gt] at k'; exact k'.elim
    | some ρ2 =>
      rw [gt] at k'
      refine ⟨Z, F', ρ', d, ρ2, S2, rp, gt, fun σ2 S3 st3 _ _ => ⟨Z, F', ρ2, S3, ?_⟩⟩
      have k2 := PostS.later k' (st2.s.trans st3.s)
      have base : ∀ σ4 H4 F4 ρ4, SR X.K Z F4 ρ4 σ4 H4 → StepS σ2 σ4 F' F4 ρ2 ρ4 H2 H4 → Car F1 F4 H1 H4 ∧ ∀ a, H1 a ≠ none → H4 a ≠ none := fun σ4 H4 F4 ρ4 S4 st4 => by
        have d2 : ∀ a, H1 a ≠ none → H2 a ≠ none := fun a h => st2.dom a (dm' a h)
        exact ⟨(c'.trans st2.car dm').trans st4.car d2, fun a h => st4.dom a (d2 a h)⟩
      dsimp only at k2
      cases gb : b ρ2 with
      | next ρ3 =>
        rw [gb] at k2
        intro σ4 H4 F4 S4 st4
        obtain ⟨b1, b2⟩ := base _ _ _ _ S4 st4
        exact ⟨F4, ρ3, S4, b1, b2, PostS.later k2 st4⟩
      | cont ρ3 =>
        rw [gb] at k2
        intro σ4 H4 F4 S4 st4
        obtain ⟨b1, b2⟩ := base _ _ _ _ S4 st4
        exact ⟨F4, ρ3, S4, b1, b2, PostS.later k2 st4⟩
      | brk ρ3 => rw [gb] at k2; exact k2
      | ret r ρ3 => rw [gb] at k2; exact k2
      | exc e ρ3 => rw [gb] at k2; exact k2
      | no => rw [gb] at k2; exact k2
  · have e : i = ds.length := by omega
    subst e
    refine .inl ⟨it.stop F' H' c', ?_⟩
    rw [List.drop_length] at k'
    exact k' σ' H' F' S' .refl

/-! ### while: so many turns at most -/
omit [Tab] [Zok] in
def whLoop (c : MB) (b : MS) : Nat → Env → SO
  | 0, _ => .no
  | n + 1, ρ => (c ρ).bindS fun t ρ1 => if t then match b ρ1 with
      | .next ρ2 => whLoop c b n ρ2
      | .cont ρ2 => whLoop c b n ρ2
      | .brk ρ2 => .next ρ2
      | o => o
    else .next ρ1
omit [Tab] [Zok] in
def sWhile (fuel : Nat) (c : MB) (b : MS) : MS := whLoop c b fuel
theorem qs_while {c : Expr} {body : List Stmt} {mc : MB} {b : MS} {pos : Pos} (fuel : Nat) (hp : PassesOwn (model X.prog X.w) X.A X.env X.xe) (hc : QT X W c mc) (hb : QB X W body b) : QS X W (.While c body [] pos) (sWhile fuel mc b) := by
  refine PS.of (ps_while hp hc hb) fun D σ H hq => ?_
  obtain ⟨Z, F, ρ, S, k⟩ := hq
  refine ⟨fun n σ' H' => ∃ F' ρ', SR X.K Z F' ρ' σ' H' ∧ PostS X W Z σ' F' ρ' H' D (whLoop mc b n ρ'), ⟨fuel, F, ρ, S, k⟩, ?_⟩
  rintro n σ' H' ⟨F', ρ', S', k'⟩
  cases n with
  | zero => exact k'.elim
  | succ n =>
    unfold whLoop at k'
    refine ⟨Z, F', ρ', S', PostS.bind k' fun t ρ1 H1 F1 e1 S1 st1 k1 => ?_⟩
    cases t with
    | true =>
      refine iteT ⟨fun σ4 H4 => ∃ F4 ρ4, SR X.K Z F4 ρ4 σ4 H4 ∧ PostS X W Z σ4 F4 ρ4 H4 D (whLoop mc b n ρ4), fun σ4 H4 h4 => ⟨n, Nat.lt_succ_self n, h4⟩, Z, F1, ρ1, S1, ?_⟩
      rw [if_pos rfl] at k1
      cases gb : b ρ1 with
      | next ρ3 => rw [gb] at k1; exact fun σ4 H4 F4 S4 st4 => ⟨F4, ρ3, S4, PostS.later k1 st4⟩
      | cont ρ3 => rw [gb] at k1; exact fun σ4 H4 F4 S4 st4 => ⟨F4, ρ3, S4, PostS.later k1 st4⟩
      | brk ρ3 => rw [gb] at k1; exact k1
      | ret r ρ3 => rw [gb] at k1; exact k1
      | exc e ρ3 => rw [gb] at k1; exact k1
      | no => rw [gb] at k1; exact k1
    | false => exact iteF (k1 σ' H1 F1 S1 .refl)
end
end PD

namespace PD
open PySem PySem.Spec PyProof.Rows L2
/-! ### comprehensions -/
def wipeE (ρ : Env) : List Nat → Env
  | [] => ρ
  | v :: vs => (wipeE ρ vs).set v none
/-- the slots at vs as they were -/
def backE (ρ0 ρ : Env) : List Nat → Env
  | [] => ρ
  | v :: vs => (backE ρ0 ρ vs).set v ((ρ0[v]?).getD none)
/-- no exception is let out of a comprehension -/
def Out.quiet {α : Type} : Out α → Out α
  | .exc _ _ => .no
  | o => o
def noPar (ρ : Env) (vs : List Nat) : Bool := vs.all fun v => !parAt ρ v
def lcLoop (vs : List Nat) (t : MT) (c : MB) (e : ME) : List D → Env → List D → Out (List D)
  | [], ρ, acc => .ok acc ρ
  | d :: ds, ρ, acc => match t d ρ with
    | none => .no
    | some ρ1 => (c ρ1).quiet.bind fun b ρ2 => if b then (e ρ2).quiet.bind fun r ρ3 => match frz [r] with
        | some [x] => if noPar ρ3 vs then lcLoop vs t c e ds (wipeE ρ3 vs) (acc ++ [x]) else .no
        | _ => .no
      else if noPar ρ2 vs then lcLoop vs t c e ds (wipeE ρ2 vs) acc else .no
def mLc (m : MI) (vs : List Nat) (t : MT) (c : MB) (e : ME) : ME := fun ρ => (m ρ).bind fun ds ρ1 => if noPar ρ1 vs && decide (ds.length ≤ LINE) then (lcLoop vs t c e ds (wipeE ρ1 vs) []).bind fun acc ρ2 => .ok (.own (.list acc)) (backE ρ1 ρ2 vs) else .no
theorem wipeE_get (ρ : Env) : ∀ (vs : List Nat) (i : Nat), i ∉ vs → (wipeE ρ vs)[i]? = ρ[i]?
  | [], _, _ => rfl
  | v :: vs, i, h => by
    simp only [List.mem_cons, not_or] at h
    unfold wipeE
    rw [List.getElem?_set_ne (Ne.symm h.1), wipeE_get ρ vs i h.2]
theorem wipeE_in (ρ : Env) : ∀ (vs : List Nat) (i : Nat) (sv : SV), (wipeE ρ vs)[i]? = some (some sv) → i ∉ vs ∧ ρ[i]? = some (some sv)
  | [], _, _, h => ⟨by simp, h⟩
  | v :: vs, i, sv, h => by
    unfold wipeE at h
    by_cases e : v = i
    · subst e
      rw [List.getElem?_set] at h
      simp at h
    · rw [List.getElem?_set_ne e] at h
      obtain ⟨h1, h2⟩ := wipeE_in ρ vs i sv h
      exact ⟨by simp only [List.mem_cons, not_or]; exact ⟨fun z => e z.symm, h1⟩, h2⟩
theorem wipeE_len (ρ : Env) : ∀ vs : List Nat, (wipeE ρ vs).length = ρ.length
  | [] => rfl
  | v :: vs => by unfold wipeE; rw [List.length_set, wipeE_len ρ vs]
theorem wipe_get (σ : St) : ∀ (vs : List Nat) (i : Nat), i ∉ vs → (wipe σ vs)[i]? = σ[i]?
  | [], _, _ => rfl
  | v :: vs, i, h => by
    simp only [List.mem_cons, not_or] at h
    unfold wipe
    rw [List.getElem?_set_ne (Ne.symm h.1), wipe_get σ vs i h.2]
theorem wipe_same {σ σ' : St} : ∀ {vs : List Nat}, Same2 vs σ σ' → wipe σ' vs = wipe σ vs := by
  intro vs h
  have q : ∀ (us : List Nat) (i : Nat), i ∈ us → ∀ (σ : St), i < σ.length → (wipe σ us)[i]? = some none := by
    intro us
    induction us with
    | nil => intro i h; cases h
    | cons u us ih =>
      intro i h σ hl
      unfold wipe
      by_cases e : u = i
      · subst e
        rw [List.getElem?_set_self (by rw [wipe_length]; exact hl)]
      · rw [List.getElem?_set_ne e]
        exact ih i (by simpa [Ne.symm e] using h) σ hl
  apply List.ext_getElem?
  intro i
  by_cases hi : i ∈ vs
  · by_cases hl : i < σ.length
    · rw [q vs i hi σ hl, q vs i hi σ' (by rw [h.1]; exact hl)]
    · rw [List.getElem?_eq_none (by rw [wipe_length, h.1]; omega), List.getElem?_eq_none (by rw [wipe_length]; omega)]
  · rw [wipe_get σ' vs i hi, wipe_get σ vs i hi, h.2 i hi]
theorem backE_get (ρ0 ρ : Env) : ∀ (vs : List Nat) (i : Nat), i ∉ vs → (backE ρ0 ρ vs)[i]? = ρ[i]?
  | [], _, _ => rfl
  | v :: vs, i, h => by
    simp only [List.mem_cons, not_or] at h
    unfold backE
    rw [List.getElem?_set_ne (Ne.symm h.1), backE_get ρ0 ρ vs i h.2]
theorem backE_len (ρ0 ρ : Env) : ∀ vs : List Nat, (backE ρ0 ρ vs).length = ρ.length
  | [] => rfl
  | v :: vs => by unfold backE; rw [List.length_set, backE_len ρ0 ρ vs]
theorem backE_in (ρ0 ρ : Env) : ∀ (vs : List Nat) (i : Nat) (sv : SV), (backE ρ0 ρ vs)[i]? = some (some sv) → (i ∈ vs ∧ ρ0[i]? = some (some sv)) ∨ (i ∉ vs ∧ ρ[i]? = some (some sv))
  | [], _, _, h => .inr ⟨by simp, h⟩
  | v :: vs, i, sv, h => by
    unfold backE at h
    by_cases e : v = i
    · subst e
      rw [List.getElem?_set] at h
      simp at h
      left
      refine ⟨List.mem_cons_self, ?_⟩
      cases q : ρ0[v]? with
      | none => rw [q] at h; simp at h
      | some x => rw [q] at h; simp at h; rw [h.2]
    · rw [List.getElem?_set_ne e] at h
      rcases backE_in ρ0 ρ vs i sv h with ⟨h1, h2⟩ | ⟨h1, h2⟩
      · exact .inl ⟨List.mem_cons_of_mem _ h1, h2⟩
      · exact .inr ⟨by simp only [List.mem_cons, not_or]; exact ⟨fun z => e z.symm, h1⟩, h2⟩
section
variable [Tab] [Zok] {X : Cx} {W : WX} {K : PySem.W.Frag} {Z : Zone} {σ σ1 : St} {F F1 : Forb} {ρ ρ1 : Env} {H H1 : Hp} {vs : List Nat}
theorem noPar_of {ρ : Env} {vs : List Nat} (h : noPar ρ vs = true) {v : Nat} (hv : v ∈ vs) : parAt ρ v = false := by
  unfold noPar at h
  have := List.all_eq_true.mp h v hv
  simpa using this
theorem OwnAt.of_wipe {i : Nat} {a : Addr} (o : OwnAt (wipeE ρ vs) (wipe σ vs) i a) : i ∉ vs ∧ OwnAt ρ σ i a := by
  obtain ⟨sv, h1, h2, h3⟩ := o
  obtain ⟨n, h1⟩ := wipeE_in ρ vs i sv h1
  exact ⟨n, sv, h1, h2, by rw [wipe_get σ vs i n] at h3; exact h3⟩
theorem SR.wipe (S : SR K Z F ρ σ H) (np : noPar ρ vs = true) : SR K Z F (wipeE ρ vs) (L2.wipe σ vs) H where
  len := by rw [wipeE_len, wipe_length]; exact S.len
  al := S.al
  m0 := S.m0
  keepM := S.keepM
  ext := S.ext
  dom := S.dom
  slot := fun i sv e => by
    obtain ⟨n, e⟩ := wipeE_in ρ vs i sv e
    rw [wipe_get σ vs i n]
    exact S.slot i sv e
  par := fun p hp => by
    obtain ⟨d, h1, h2⟩ := S.par p hp
    have n : p.1 ∉ vs := fun z => by
      have := noPar_of np z
      unfold parAt at this
      rw [h1] at this
      cases this
    exact ⟨d, by rw [wipeE_get ρ vs _ n]; exact h1, by rw [wipe_get σ vs _ n]; exact h2⟩
  apart := fun i j a oi oj => S.apart i j a oi.of_wipe.2 oj.of_wipe.2
  notM := fun i a o => S.notM i a o.of_wipe.2
  fz := S.fz
  tabs := S.tabs
  fl := S.fl
  zok := S.zok
  opq := fun p hp => by
    obtain ⟨⟨o, h1, h3⟩, h2⟩ := S.opq p hp
    have n : p.1 ∉ vs := fun z => by
      have := noPar_of np z
      unfold parAt at this
      rw [h1] at this
      dsimp only at this
      rw [h3] at this
      cases this
    exact ⟨⟨o, by rw [wipeE_get ρ vs _ n]; exact h1, h3⟩, by rw [wipe_get σ vs _ n]; exact h2⟩
theorem tabs_updM {T : List (Addr × Str)} {A : Addr} {u o : HO} {H : Hp} (h : H A = some u) (mb : Mb u) (t : LamX.Tabs T H) : LamX.Tabs T (upd H A o) := fun p hp => by
  obtain ⟨ps, h1, h2, h3⟩ := t p hp
  have n1 : p.1 ≠ A := fun e => by rw [e, h] at h1; cases h1; exact mb
  refine ⟨ps, by rw [upd_ne n1]; exact h1, h2, fun pos cv hc => ?_⟩
  obtain ⟨c, e1, e2⟩ := h3 pos cv hc
  have n2 : c ≠ A := fun e => by
    rw [e, h] at e2
    unfold LamX.CodeO at e2
    cases e2
    exact mb
  exact ⟨c, e1, by rw [upd_ne n2]; exact e2⟩
theorem tabs_upd {T : List (Addr × Str)} {A : Addr} {xs : List V} {o : HO} {H : Hp} (h : H A = some (.lst xs)) (t : LamX.Tabs T H) : LamX.Tabs T (upd H A o) := tabs_updM h trivial t
theorem ne_by {P : Forb} {a A : Addr} (n : ¬ P A) (h : P a) : a ≠ A := fun e => by subst e; exact n h
theorem ne_by2 {P : Forb} {a A : Addr} (n : ¬ P a) (h : P A) : a ≠ A := fun e => by subst e; exact n h
/-- the new list grows -/
theorem SR.poke {A : Addr} {o : HO} (S : SR K Z F ρ σ H) (f : F A) (m : ¬ Z.M A) (n : ∀ i, ¬ OwnAt ρ σ i A) (hz : ¬ Z.F A → Z.H A = none) {u0 : HO} (hx : H A = some u0) (mb : Mb u0) (ho : Mb o) : SR K Z F ρ σ (upd H A o) where
  tabs := tabs_updM hx mb S.tabs
  fl := fun a u h e => by
    by_cases q : a = A
    · subst q; rw [upd_same] at e; cases e; exact ho
    · rw [upd_ne q] at e; exact S.fl a u h e
  zok := S.zok
  opq := S.opq
  len := S.len
  al := fun a h => by
    by_cases e : a = A
    · subst e; rw [upd_same]; exact fun z => nomatch z
    · rw [upd_ne e]; exact S.al a h
  m0 := S.m0
  keepM := fun a h => by rw [upd_ne (ne_by m h)]; exact S.keepM a h
  ext := fun a u h t e => by
    have q : a ≠ A := fun z => by subst z; rw [hz h] at e; cases e
    rw [upd_ne q]; exact S.ext a u h t e
  dom := fun a h => by
    by_cases e : a = A
    · subst e; rw [upd_same]; exact fun z => nomatch z
    · rw [upd_ne e]; exact S.dom a h
  slot := fun i sv e => by
    obtain ⟨v, h1, h2⟩ := S.slot i sv e
    have c : Car F F H (upd H A o) := ⟨fun a u na _ e => by rw [upd_ne (ne_by2 na f)]; exact e, fun a f => .inl f, tabs_updM hx mb⟩
    refine ⟨v, h1, ?_⟩
    cases sv with
    | dat d => exact Rep.car c h2
    | own d => obtain ⟨a, rfl, fa, ow⟩ := h2; exact ⟨a, rfl, fa, ow.car c (upd_ne fun z => n i ⟨_, e, rfl, by rw [← z]; exact h1⟩)⟩
    | par d => obtain ⟨a, rfl, fa, ow⟩ := h2; exact ⟨a, rfl, fa, ow.car c (upd_ne fun z => n i ⟨_, e, rfl, by rw [← z]; exact h1⟩)⟩
    | opq o => exact ObjR.car c h2
  par := S.par
  apart := S.apart
  notM := S.notM
  fz := S.fz
theorem Car.poke {A : Addr} {o : HO} {xs : List V} (f : F A) (hx : H A = some (.lst xs)) : Car F F H (upd H A o) := ⟨fun a u na _ e => by rw [upd_ne (ne_by2 na f)]; exact e, fun a f => .inl f, tabs_upd hx⟩
/-- the reading of the tests -/
def RTs (X : Cx) (W : WX) (m : MB) : TT := RT X W m
abbrev QTs (X : Cx) (W : WX) (ifs : List Expr) (m : MB) : Prop := PTs X ifs (RT X W m)
omit [Tab] [Zok] in
def bYes : MB := fun ρ => .ok true ρ
theorem PTs.of {X : Cx} {e : List Expr} {t u : TT} (h : PTs X e t) (i : ∀ σ H Q, u σ H Q → t σ H Q) : PTs X e u := ⟨fun pins s σ H Q I hw => h.run pins s σ H Q I (i _ _ _ hw)⟩
theorem qts_nil : QTs X W [] bYes := by
  refine PTs.of pts_nil fun σ H Q hq => ?_
  obtain ⟨Z, F, ρ, S, k⟩ := hq
  exact k H F S .refl
theorem qts_one {c : Expr} {m : MB} (h : QT X W c m) : QTs X W [c] m := pts_one h
omit [Tab] [Zok] in
abbrev W0 : WX := fun _ _ _ _ => False
theorem wipe_twice {σ : St} {vs : List Nat} : L2.wipe (L2.wipe σ vs) vs = L2.wipe σ vs := wipe_same ⟨wipe_length σ vs, fun j hj => wipe_get σ vs j hj⟩
theorem backE_at (ρ0 ρ : Env) : ∀ (vs : List Nat) (i : Nat), i ∈ vs → i < ρ.length → (backE ρ0 ρ vs)[i]? = some ((ρ0[i]?).getD none)
  | [], _, h, _ => by cases h
  | v :: vs, i, h, hl => by
    unfold backE
    by_cases e : v = i
    · subst e
      rw [List.getElem?_set_self (by rw [backE_len]; exact hl)]
    · rw [List.getElem?_set_ne e]
      exact backE_at ρ0 ρ vs i (by simpa [Ne.symm e] using h) hl
theorem OwnAt.of_back {ρ0 ρ' : Env} {i : Nat} {a : Addr} (o : OwnAt (backE ρ0 ρ' vs) σ i a) : (i ∈ vs ∧ OwnAt ρ0 σ i a) ∨ (i ∉ vs ∧ OwnAt ρ' (L2.wipe σ vs) i a) := by
  obtain ⟨sv, h1, h2, h3⟩ := o
  rcases backE_in ρ0 ρ' vs i sv h1 with ⟨n, h⟩ | ⟨n, h⟩
  · exact .inl ⟨n, sv, h, h2, h3⟩
  · exact .inr ⟨n, sv, h, h2, by rw [wipe_get σ vs i n]; exact h3⟩
theorem StepO.poke {σ σ' : St} {F F' : Forb} {ρ ρ' : Env} {H H' : Hp} {A : Addr} {o : HO} (s : StepO σ σ' F F' ρ ρ' H H') (n : H A = none) (al : ∀ a, F a → H a ≠ none) {xs : List V} (hx : H' A = some (.lst xs)) : StepO σ σ' F F' ρ ρ' H (upd H' A o) where
  car := ⟨fun a u na t e => by rw [upd_ne (ne_of_none e n)]; exact s.car.rd a u na t e, s.car.fr, fun t => tabs_upd hx (s.car.tb t)⟩
  kp := s.kp
  tm := fun a f no => by
    have : a ≠ A := fun e => by subst e; exact al a f n
    rw [upd_ne this]; exact s.tm a f no
  ow := s.ow
  dom := fun a h => by
    have : a ≠ A := fun e => by subst e; exact h n
    rw [upd_ne this]; exact s.dom a h
/-- what the walk of a comprehension asks -/
theorem lc_read {m : MI} {t : MT} {c : MB} {e : ME} {Q : VK} (hq : RE X W (mLc m vs t c e) σ H Q) : tLc (RI X W m) (RG X vs t) (RT X W0 c) (RE X W0 e) vs σ H Q := by
  obtain ⟨Z, F, ρ, S, k⟩ := hq
  refine ⟨Z, F, ρ, S, Post.bind0 k fun ds ρ1 H1 F1 e1 S1 st1 k1 J it A nA => ?_⟩
  cases np : (noPar ρ1 vs && decide (ds.length ≤ LINE)) with
  | false => rw [np] at k1; exact k1.elim
  | true =>
    rw [np, if_pos rfl] at k1
    rw [Bool.and_eq_true, decide_eq_true_eq] at np
    obtain ⟨np, hline⟩ := np
    have hline' : ds.length ≤ sizeLine := by rw [line_eq]; exact hline
    obtain ⟨S2, st2⟩ := S1.newOwn (o := .lst []) nA trivial
    have no := S1.noown nA
    have S3 := S2.wipe np
    have hz : ¬ Z.F A → Z.H A = none := fun _ => by
      cases q : Z.H A with
      | none => rfl
      | some o => exact absurd nA (S1.dom A (nn q))
    -- the turns
    refine ⟨fun i n H' => n = ds.length - i ∧ i ≤ ds.length ∧ ∃ F' ρ' acc accV, SR X.K Z F' ρ' (L2.wipe σ vs) H' ∧ StepO (L2.wipe σ vs) (L2.wipe σ vs) F1 F' (wipeE ρ1 vs) ρ' H1 H' ∧
        (∀ j, j ∉ vs → slotD ρ1 j ≠ none → slotD ρ' j ≠ none) ∧ H' A = some (.lst accV) ∧ F' A ∧ (∀ j, ¬ OwnAt ρ' (L2.wipe σ vs) j A) ∧ RepAll X.K F' H' accV acc ∧ acc.length ≤ i ∧
        Post X W Z σ F ρ H (GE X Z σ H Q) ((lcLoop vs t c e (ds.drop i) ρ' acc).bind fun acc ρ2 => .ok (.own (.list acc)) (backE ρ1 ρ2 vs)), ⟨ds.length, by simp, Nat.zero_le _, (fun a => F1 a ∨ a = A), wipeE ρ1 vs, [], [], S3, ⟨⟨fun a u _ _ e => same_new nA a u e, fun a f => ?_, fun t => t.ext (same_new nA)⟩, fun a f => .inl (.inl f), fun a f _ => upd_ne (ne_by no.1 f), fun _ _ o => o, st2.dom⟩, ?_, upd_same, .inr rfl, ?_, .nil, Nat.zero_le _, by simpa using k1⟩, ?_⟩
    · rcases f with f | f
      · exact .inl f
      · exact .inr (by rw [f]; exact nA)
    · intro j hj h
      unfold slotD at h ⊢
      rw [wipeE_get ρ1 vs j hj]
      exact h
    · intro j o
      exact no.2.2 j o.of_wipe.2
    rintro i n H' ⟨rfl, hi, F', ρ', acc, accV, S', st', has', hA, fA, oA, rA, lA, k'⟩
    have cJ : Car F1 F' H1 H' := st'.car
    by_cases hlt : i < ds.length
    · refine .inr ⟨it.go F' H' cJ i hlt, fun H'' => i + 1 ≤ ds.length ∧ ∃ F' ρ' acc accV, SR X.K Z F' ρ' (L2.wipe σ vs) H'' ∧ StepO (L2.wipe σ vs) (L2.wipe σ vs) F1 F' (wipeE ρ1 vs) ρ' H1 H'' ∧
        (∀ j, j ∉ vs → slotD ρ1 j ≠ none → slotD ρ' j ≠ none) ∧ H'' A = some (.lst accV) ∧ F' A ∧ (∀ j, ¬ OwnAt ρ' (L2.wipe σ vs) j A) ∧ RepAll X.K F' H'' accV acc ∧ acc.length ≤ i + 1 ∧
        Post X W Z σ F ρ H (GE X Z σ H Q) ((lcLoop vs t c e (ds.drop (i + 1)) ρ' acc).bind fun acc ρ2 => .ok (.own (.list acc)) (backE ρ1 ρ2 vs)), fun H'' h => ⟨ds.length - (i + 1), by omega, rfl, h⟩, fun x H2 y => ?_⟩
      obtain ⟨hH, d, hd, rp⟩ := it.yld F' H' cJ S'.al i x H2 hlt y
      obtain ⟨S4, st4⟩ := S'.yielded hH
      have hdrop : ds.drop i = d :: ds.drop (i + 1) := by
        obtain ⟨h1, h2⟩ := List.getElem?_eq_some_iff.mp hd
        rw [← h2]
        exact List.drop_eq_getElem_cons h1
      rw [hdrop] at k'
      unfold lcLoop at k'
      cases gt : t d ρ' with
      | none => rw [gt] at k'; exact k'.elim
      | some ρ2 =>
        rw [gt] at k'
        refine ⟨Z, F', ρ', d, ρ2, S4, rp, gt, fun σ2 S5 st5 sm hs5 => ?_⟩
        have ew : L2.wipe σ2 vs = L2.wipe σ vs := (wipe_same sm).trans wipe_twice
        refine ⟨ew, Z, F', ρ2, S5, ?_⟩
        dsimp only at k'
        cases gc : c ρ2 with
        | no => rw [gc] at k'; exact k'.elim
        | exc _ _ => rw [gc] at k'; exact k'.elim
        | ok b ρ3 =>
          rw [gc] at k'
          intro H3 F3 S6 st6
          have T3 : StepO (L2.wipe σ vs) σ2 F' F3 ρ' ρ3 H' H3 := (st4.o.trans st5).trans st6.o
          cases b with
          | true =>
            refine iteT ⟨Z, F3, ρ3, S6, ?_⟩
            change Post X W Z σ F ρ H _ (Out.bind (Out.bind (e ρ3).quiet _) _) at k'
            cases ge : e ρ3 with
            | no => rw [ge] at k'; exact k'.elim
            | exc _ _ => rw [ge] at k'; exact k'.elim
            | ok r ρ4 =>
              rw [ge] at k'
              intro H4 F4 S7 st7 v vo nw
              change Post X W Z σ F ρ H _ (Out.bind (match frz [r] with
                | some [x] => if noPar ρ4 vs = true then lcLoop vs t c e (ds.drop (i + 1)) (wipeE ρ4 vs) (acc ++ [x]) else .no
                | _ => .no) _) at k'
              cases g : frz [r] with
              | none => rw [g] at k'; exact k'.elim
              | some dd =>
                rw [g] at k'
                obtain ⟨F5, S8, st8, rps⟩ := give_all S6 S7 st7 (.cons vo .nil) (.cons nw .nil) g
                cases rps with
                | cons r1 r2 =>
                  cases r2
                  rename_i xd
                  dsimp only at k'
                  cases np4 : noPar ρ4 vs with
                  | false => rw [np4] at k'; exact k'.elim
                  | true =>
                    rw [np4, if_pos rfl] at k'
                    have T4 : StepO (L2.wipe σ vs) σ2 F' F5 ρ' ρ4 H' H4 := T3.trans st8.o
                    have hA4 : H4 A = some (.lst accV) := (T4.tm A fA oA).trans hA
                    have fA5 : F5 A := by
                      rcases T4.kp A fA with z | ⟨j, z, _⟩
                      · exact z
                      · exact absurd z (oA j)
                    have oA5 : ∀ j, ¬ OwnAt ρ4 σ2 j A := fun j o => oA j (T4.ow j A o)
                    have zl : accV.length = acc.length := rA.length
                    refine ⟨accV, hA4, by omega, hlt, F5, wipeE ρ4 vs, acc ++ [xd], accV ++ [v], ?_, ?_, fun j hj h => ?_, upd_same, fA5, ?_, ?_, by simp; omega, k'⟩
                    · rw [← ew]
                      exact (S8.poke (o := .lst (accV ++ [v])) fA5 no.2.1 oA5 hz hA4 trivial trivial).wipe np4
                    · have T5 : StepO (L2.wipe σ vs) (L2.wipe σ vs) F' F5 ρ' (wipeE ρ4 vs) H' H4 := by
                        refine ⟨T4.car, fun a f => ?_, T4.tm, fun j a o => ?_, T4.dom⟩
                        · rcases T4.kp a f with z | ⟨j, z1, z2⟩
                          · exact .inl z
                          · refine .inr ⟨j, z1, fun o => z2 ?_⟩
                            rw [← ew] at o
                            exact o.of_wipe.2
                        · rw [← ew] at o
                          exact T4.ow j a o.of_wipe.2
                      exact (st'.trans T5).poke nA S1.al hA4
                    · have h2 := has' j hj h
                      have h3 := st8.has j (st6.has j (hs5 j h2))
                      unfold slotD at h3 ⊢
                      rw [wipeE_get ρ4 vs j hj]
                      exact h3
                    · intro j o
                      rw [← ew] at o
                      exact oA5 j o.of_wipe.2
                    · have cc : Car F5 F5 H4 (upd H4 A (.lst (accV ++ [v]))) := Car.poke fA5 hA4
                      exact ((rA.car T4.car).car cc).append (.cons (r1.car cc) .nil)
          | false =>
            refine iteF ?_
            change Post X W Z σ F ρ H _ (Out.bind (if noPar ρ3 vs = true then lcLoop vs t c e (ds.drop (i + 1)) (wipeE ρ3 vs) acc else .no) _) at k'
            cases np3 : noPar ρ3 vs with
            | false => rw [np3] at k'; exact k'.elim
            | true =>
              rw [np3, if_pos rfl] at k'
              have oA3 : ∀ j, ¬ OwnAt ρ3 σ2 j A := fun j o => oA j (T3.ow j A o)
              refine ⟨hlt, F3, wipeE ρ3 vs, acc, accV, ?_, ?_, fun j hj h => ?_, (T3.tm A fA oA).trans hA, ?_, ?_, rA.car T3.car, by omega, k'⟩
              · rw [← ew]
                exact S6.wipe np3
              · have T5 : StepO (L2.wipe σ vs) (L2.wipe σ vs) F' F3 ρ' (wipeE ρ3 vs) H' H3 := by
                  refine ⟨T3.car, fun a f => ?_, T3.tm, fun j a o => ?_, T3.dom⟩
                  · rcases T3.kp a f with z | ⟨j, z1, z2⟩
                    · exact .inl z
                    · refine .inr ⟨j, z1, fun o => z2 ?_⟩
                      rw [← ew] at o
                      exact o.of_wipe.2
                  · rw [← ew] at o
                    exact T3.ow j a o.of_wipe.2
                exact st'.trans T5
              · have h3 := st6.has j (hs5 j (has' j hj h))
                unfold slotD at h3 ⊢
                rw [wipeE_get ρ3 vs j hj]
                exact h3
              · rcases T3.kp A fA with z | ⟨j, z, _⟩
                · exact z
                · exact absurd z (oA j)
              · intro j o
                rw [← ew] at o
                exact oA3 j o.of_wipe.2
    · have ei : i = ds.length := by omega
      subst ei
      refine .inl ⟨it.stop F' H' cJ, ?_⟩
      rw [List.drop_length] at k'
      have own1 : ∀ i a, OwnAt (backE ρ1 ρ' vs) σ i a → OwnAt ρ1 σ i a := fun i a o => by
        rcases o.of_back with ⟨_, o⟩ | ⟨_, o⟩
        · exact o
        · exact (st'.ow i a o).of_wipe.2
      have free : ∀ i a, i ∈ vs → OwnAt ρ1 σ i a → ∀ j, ¬ OwnAt (wipeE ρ1 vs) (L2.wipe σ vs) j a := fun i a hi o j oj => by
        obtain ⟨n, o2⟩ := oj.of_wipe
        have := S1.apart i j a o o2
        subst this
        exact n hi
      have ownF : ∀ i a, i ∈ vs → OwnAt ρ1 σ i a → F1 a → F' a ∧ H' a = H1 a := fun i a hi o f => by
        have fr := free i a hi o
        refine ⟨?_, st'.tm a f fr⟩
        rcases st'.kp a f with z | ⟨j, z, _⟩
        · exact z
        · exact absurd z (fr j)
      have SB : SR X.K Z F' (backE ρ1 ρ' vs) σ H' := {
        len := by rw [backE_len, S'.len, wipe_length]
        al := S'.al
        m0 := S'.m0
        keepM := S'.keepM
        ext := S'.ext
        dom := S'.dom
        slot := fun i sv e => by
          rcases backE_in ρ1 ρ' vs i sv e with ⟨hi, e⟩ | ⟨hi, e⟩
          · obtain ⟨v, h1, h2⟩ := S1.slot i sv e
            refine ⟨v, h1, ?_⟩
            cases sv with
            | dat d => exact Rep.car cJ h2
            | own d => obtain ⟨a, rfl, f, o⟩ := h2; obtain ⟨q1, q2⟩ := ownF i a hi ⟨_, e, rfl, h1⟩ f; exact ⟨a, rfl, q1, o.car cJ q2⟩
            | par d => obtain ⟨a, rfl, f, o⟩ := h2; obtain ⟨q1, q2⟩ := ownF i a hi ⟨_, e, rfl, h1⟩ f; exact ⟨a, rfl, q1, o.car cJ q2⟩
            | opq o => exact ObjR.car cJ h2
          · obtain ⟨v, h1, h2⟩ := S'.slot i sv e
            exact ⟨v, by rw [wipe_get σ vs i hi] at h1; exact h1, h2⟩
        par := fun p hp => by
          obtain ⟨d0, q1, q2⟩ := S1.par p hp
          have n : p.1 ∉ vs := fun z => by
            have := noPar_of np z
            unfold parAt at this
            rw [q1] at this
            cases this
          obtain ⟨d, h1, h2⟩ := S'.par p hp
          exact ⟨d, by rw [backE_get ρ1 ρ' vs _ n]; exact h1, by rw [wipe_get σ vs _ n] at h2; exact h2⟩
        apart := fun i j a oi oj => S1.apart i j a (own1 i a oi) (own1 j a oj)
        notM := fun i a o => S1.notM i a (own1 i a o)
        fz := S'.fz
        tabs := S'.tabs
        fl := S'.fl
        zok := S'.zok
        opq := fun p hp => by
          obtain ⟨⟨o0, q1, q3⟩, q2⟩ := S1.opq p hp
          have n : p.1 ∉ vs := fun z => by
            have := noPar_of np z
            unfold parAt at this
            rw [q1] at this
            dsimp only at this
            rw [q3] at this
            cases this
          obtain ⟨⟨o, h1, h3⟩, h2⟩ := S'.opq p hp
          exact ⟨⟨o, by rw [backE_get ρ1 ρ' vs _ n]; exact h1, h3⟩, by rw [wipe_get σ vs _ n] at h2; exact h2⟩ }
      have stB : Step σ F1 F' ρ1 (backE ρ1 ρ' vs) H1 H' := {
        car := cJ
        kp := fun a f => by
          rcases st'.kp a f with z | ⟨j, z1, z2⟩
          · exact .inl z
          · refine .inr ⟨j, z1.of_wipe.2, fun o => ?_⟩
            rcases o.of_back with ⟨hj, _⟩ | ⟨_, o⟩
            · exact z1.of_wipe.1 hj
            · exact z2 o
        tm := fun a f n => st'.tm a f fun j o => n j o.of_wipe.2
        ow := own1
        dom := st'.dom
        has := fun j h => by
          by_cases hj : j ∈ vs
          · have hl : j < ρ1.length := by
              unfold slotD at h
              cases q : ρ1[j]? with
              | none => rw [q] at h; exact absurd rfl h
              | some x => exact (List.getElem?_eq_some_iff.mp q).1
            have hl2 : j < ρ'.length := by rw [S'.len, wipe_length, ← S1.len]; exact hl
            unfold slotD at h ⊢
            rw [backE_at ρ1 ρ' vs j hj hl2]
            cases q : ρ1[j]? with
            | none => rw [q] at h; exact absurd rfl h
            | some x => rw [q] at h; simpa using h
          · have := has' j hj h
            unfold slotD at this ⊢
            rw [backE_get ρ1 ρ' vs j hj]
            exact this }
      refine k' H' F' SB (st1.trans stB) (.ref A) ⟨A, rfl, fA, ⟨accV, hA, by rw [rA.length]; omega, rA⟩, no.2.1, fun j o => no.2.2 j (own1 j A o)⟩ ?_
      intro a ea
      cases ea
      cases q : H A with
      | none => rfl
      | some o => exact absurd nA (st1.dom A (nn q))
end
end PD

namespace PD
open PySem PySem.Spec PyProof.Rows L2
section
variable [Tab] [Zok] {X : Cx} {W : WX}
theorem q_lc {elt tg iter : Expr} {ifs : List Expr} {scope : Scope} {own : List (Str × Nat)} {pos : Pos} {m : MI} {t : MT} {c : MB} {e : ME} (hc : X.calm = true) (hN : X.N.Nodup) (hi : QI X W tg iter m) (ok : BlkOk X.N X.env.scope scope own)
    (hg : ∀ (s : Shared) (H : Hp) (C : Addr) (cl : List (Str × Addr)) (fp : List Addr), QG (X.blk s H scope (compEnvC scope cl C X.env) fp) tg (own.map (·.2)) t) (ht : ∀ (s : Shared) (H : Hp) (C : Addr) (cl : List (Str × Addr)) (fp : List Addr), QTs (X.blk s H scope (compEnvC scope cl C X.env) fp) W0 ifs c)
    (he : ∀ (s : Shared) (H : Hp) (C : Addr) (cl : List (Str × Addr)) (fp : List Addr), QE (X.blk s H scope (compEnvC scope cl C X.env) fp) W0 elt e) (hs : ∀ x, foldedSetIterable iter X.env x = pure x := by intro _; rfl) :
    QE X W (.ListComp elt [⟨tg, iter, ifs, 0⟩] scope pos) (mLc m (own.map (·.2)) t c e) :=
  PE.of (pe_lc hc hN hi ok hg ht he hs) fun σ H Q hq => lc_read hq
theorem q_setLc {i : Nat} {y : Str} {py : Pos} {elt tg iter : Expr} {ifs : List Expr} {scope : Scope} {own : List (Str × Nat)} {pos spos : Pos} {m : MI} {t : MT} {c : MB} {e : ME} (hc : X.calm = true) (hN : X.N.Nodup) (hy : X.N[i]? = some y) (hyl : X.env.scope.names.lookup y = some .local)
    (hsw : swapsWith (.ListComp elt [⟨tg, iter, ifs, 0⟩] scope pos) (some (.Name y py)) spos.line X.env = pure true) (hi : QI X W tg iter m) (ok : BlkOk X.N X.env.scope scope own)
    (hg : ∀ (s : Shared) (H : Hp) (C : Addr) (cl : List (Str × Addr)) (fp : List Addr), QG (X.blk s H scope (compEnvC scope cl C X.env) fp) tg (own.map (·.2)) t) (ht : ∀ (s : Shared) (H : Hp) (C : Addr) (cl : List (Str × Addr)) (fp : List Addr), QTs (X.blk s H scope (compEnvC scope cl C X.env) fp) W0 ifs c)
    (he : ∀ (s : Shared) (H : Hp) (C : Addr) (cl : List (Str × Addr)) (fp : List Addr), QE (X.blk s H scope (compEnvC scope cl C X.env) fp) W0 elt e) (hs : ∀ x, foldedSetIterable iter X.env x = pure x := by intro _; rfl) :
    ∃ t' : TE, PS X (.Assign [.Name y py] (.ListComp elt [⟨tg, iter, ifs, 0⟩] scope pos) spos) (tAsg t' (gName i)) ∧ ∀ σ H Q, RE X W (mLc m (own.map (·.2)) t c e) σ H Q → t' σ H Q :=
  ⟨_, ps_setLc hc hN hy hyl hsw hi ok hg ht he hs, fun σ H Q hq => lc_read hq⟩
end
/-! ### what a def promises -/
def MutAt (vs : List V) (as : List SV) (i : Nat) (a : Addr) : Prop := ∃ d, as[i]? = some (.par d) ∧ vs[i]? = some (.ref a)
structure ArgsOk [Tab] (K : PySem.W.Frag) (F : Forb) (H : Hp) (vs : List V) (as : List SV) : Prop where
  len : vs.length = as.length
  each : ∀ (i : Nat) sv, as[i]? = some sv → ∃ v, vs[i]? = some v ∧ SlotOk K F H v sv
  noOwn : ∀ (i : Nat) d, as[i]? ≠ some (.own d)
  apart : ∀ (i j : Nat) a, MutAt vs as i a → MutAt vs as j a → i = j
  tabs : LamX.Tabs Tab.T H
  fl : ∀ a o, F a → H a = some o → Mb o
structure CallEnd [Tab] (F0 : Forb) (vs : List V) (as : List SV) (H H' : Hp) (F1 : Forb) : Prop where
  car : Car F0 F1 H H'
  up : ∀ a, F0 a → F1 a
  keep : ∀ a, F0 a → (∀ i, ¬ MutAt vs as i a) → H' a = H a
  dom : ∀ a, H a ≠ none → H' a ≠ none
  al : ∀ a, F1 a → H' a ≠ none
  fl : ∀ a o, F1 a → H' a = some o → Mb o
def OutsOk (K : PySem.W.Frag) (F1 : Forb) (H' : Hp) (vs : List V) (as : List SV) (outs : List D) : Prop := ∀ i a, MutAt vs as i a → ∃ d, outs[i]? = some d ∧ Own K F1 H' a d
def ResOk (K : PySem.W.Frag) (F1 F0 : Forb) (H H' : Hp) (vs : List V) (as : List SV) (v : V) : SV → Prop
  | .dat d => Rep K F1 H' v d
  | .own d => ∃ a, v = .ref a ∧ F1 a ∧ Own K F1 H' a d ∧ H a = none
  | .par _ => False
  | .opq o => ObjR K F1 H' v o
/-- a def that reckons f -/
def SpD [Tab] (K : PySem.W.Frag) (mg : Str → Option Value) (n : Nat) (f : FS) : Sp := fun vs H Q E => vs.length = n ∧ ∃ F0 as, ArgsOk K F0 H vs as ∧ (∀ a, F0 a → H a ≠ none) ∧ match f as with
  | .ok r outs => ∀ v H' F1, CallEnd F0 vs as H H' F1 → OutsOk K F1 H' vs as outs → ResOk K F1 F0 H H' vs as v r → Q v H'
  | .exc e => ∀ cls d H' F1, CallEnd F0 vs as H H' F1 → (∀ (i : Nat) (d : D), as[i]? ≠ some (SV.par d)) → ExcOk mg H' e cls d → E cls d H'
  | .no => False
def hasPar (as : List SV) : Bool := as.any fun | .par _ => true | _ => false
def outsOf (n : Nat) (ρ : Env) : List D := (List.range n).map fun i => (slotD ρ i).getD .none
def finish (as : List SV) : SO → FO
  | .next ρ => .ok (.dat .none) (outsOf as.length ρ)
  | .ret r ρ => match r with
    | .dat d => .ok (.dat d) (outsOf as.length ρ)
    | .own d => .ok (.own d) (outsOf as.length ρ)
    | .bor i => match ρ[i]? with
      | some (some (.own d)) => .ok (.own d) (outsOf as.length ρ)
      | some (some (.dat d)) => .ok (.dat d) (outsOf as.length ρ)
      | _ => .no
    | .thg o => .ok (.opq o) (outsOf as.length ρ)
  | .exc e _ => if hasPar as then .no else .exc e
  | _ => .no
def entry (n : Nat) (as : List SV) : Env := as.map some ++ List.replicate (n - as.length) none
/-- the def of n slots whose body is m -/
def fn (n : Nat) (m : MS) : FS := fun as => finish as (m (entry n as))
section
variable [Tab] [Zok] {K : PySem.W.Frag} {mg : Str → Option Value}
theorem entry_get {n : Nat} {as : List SV} {i : Nat} {sv : SV} (h : (entry n as)[i]? = some (some sv)) : as[i]? = some sv := by
  unfold entry at h
  by_cases e : i < as.length
  · rw [List.getElem?_append_left (by simpa using e), List.getElem?_map] at h
    cases q : as[i]? with
    | none => rw [q] at h; cases h
    | some x => rw [q] at h; simpa using h
  · rw [List.getElem?_append_right (by simpa using Nat.le_of_not_lt e)] at h
    have := List.mem_of_getElem? h
    rw [List.mem_replicate] at this
    cases this.2
theorem start_get {N : List Str} {vs : List V} {i : Nat} {v : V} (h : vs[i]? = some v) : (L2.start N vs)[i]? = some (some v) := by
  have hl := (List.getElem?_eq_some_iff.mp h).1
  unfold L2.start
  rw [List.getElem?_append_left (by simpa using hl), List.getElem?_map, h]
  rfl
theorem start_inv {N : List Str} {vs : List V} {i : Nat} {v : V} (h : (L2.start N vs)[i]? = some (some v)) : vs[i]? = some v := by
  unfold L2.start at h
  by_cases e : i < vs.length
  · rw [List.getElem?_append_left (by simpa using e), List.getElem?_map] at h
    cases q : vs[i]? with
    | none => rw [q] at h; cases h
    | some x => rw [q] at h; simpa using h
  · rw [List.getElem?_append_right (by simpa using Nat.le_of_not_lt e)] at h
    have := List.mem_of_getElem? h
    rw [List.mem_replicate] at this
    cases this.2
theorem own_start {N : List Str} {vs : List V} {as : List SV} {F : Forb} {H : Hp} {n i : Nat} {a : Addr} (A : ArgsOk K F H vs as) (o : OwnAt (entry n as) (L2.start N vs) i a) : MutAt vs as i a := by
  obtain ⟨sv, h1, h2, h3⟩ := o
  have g := entry_get h1
  cases sv with
  | dat d => cases h2
  | own d => exact absurd g (A.noOwn i d)
  | par d => exact ⟨d, g, start_inv h3⟩
  | opq o => cases h2
omit [Tab] [Zok] in
def pars (vs : List V) (as : List SV) : List (Nat × Addr) := (List.range as.length).filterMap fun i => match (as[i]? : Option SV), (vs[i]? : Option V) with
  | some (SV.par _), some (V.ref a) => some (i, a)
  | _, _ => none
theorem mem_pars {vs : List V} {as : List SV} {p : Nat × Addr} : p ∈ pars vs as ↔ MutAt vs as p.1 p.2 := by
  unfold pars MutAt
  rw [List.mem_filterMap]
  constructor
  · rintro ⟨i, _, e⟩
    split at e
    · rename_i d a h1 h2
      cases e
      exact ⟨d, h1, h2⟩
    · cases e
  · rintro ⟨d, h1, h2⟩
    refine ⟨p.1, ?_, ?_⟩
    · rw [List.mem_range]
      exact (List.getElem?_eq_some_iff.mp h1).1
    · rw [h1, h2]
omit [Tab] [Zok] in
omit [Tab] [Zok] in
def opqs (vs : List V) (as : List SV) : List (Nat × V) := (List.range as.length).filterMap fun i => match (as[i]? : Option SV), (vs[i]? : Option V) with
  | some (.opq o), some v => if o.prot then some (i, v) else none
  | _, _ => none
omit [Tab] [Zok] in
theorem mem_opqs {vs : List V} {as : List SV} {p : Nat × V} : p ∈ opqs vs as ↔ (∃ o, as[p.1]? = some (.opq o) ∧ o.prot = true) ∧ vs[p.1]? = some p.2 := by
  unfold opqs
  rw [List.mem_filterMap]
  constructor
  · rintro ⟨i, _, e⟩
    split at e
    · rename_i o v h1 h2
      split at e
      · rename_i h3
        cases e
        exact ⟨⟨o, h1, h3⟩, h2⟩
      · cases e
    · cases e
  · rintro ⟨⟨o, h1, h3⟩, h2⟩
    refine ⟨p.1, ?_, ?_⟩
    · rw [List.mem_range]
      exact (List.getElem?_eq_some_iff.mp h1).1
    · rw [h1, h2]
      dsimp only
      rw [if_pos h3]
/-- where a def's body begins -/
def zone (H : Hp) (F0 : Forb) (vs : List V) (as : List SV) : Zone := ⟨H, F0, fun a => F0 a ∧ ∀ i, ¬ MutAt vs as i a, pars vs as, opqs vs as⟩
theorem start_ok {N : List Str} {vs : List V} {as : List SV} {F0 : Forb} {H : Hp} (A : ArgsOk K F0 H vs as) (al : ∀ a, F0 a → H a ≠ none) (hN : vs.length ≤ N.length) (zk : Zok.ok (zone H F0 vs as)) : SR K (zone H F0 vs as) F0 (entry N.length as) (L2.start N vs) H where
  tabs := A.tabs
  fl := A.fl
  zok := zk
  opq := fun p hp => by
    obtain ⟨⟨o, h1, h3⟩, h2⟩ := mem_opqs.mp hp
    refine ⟨⟨o, ?_, h3⟩, start_get h2⟩
    unfold entry
    have hl := (List.getElem?_eq_some_iff.mp h1).1
    rw [List.getElem?_append_left (by simpa using hl), List.getElem?_map, h1]
    rfl
  len := by
    unfold entry L2.start
    simp [A.len]
  al := al
  m0 := fun a m => m.1
  keepM := fun _ _ => rfl
  ext := fun _ _ _ _ e => e
  dom := fun _ h => h
  slot := fun i sv e => by
    obtain ⟨v, h1, h2⟩ := A.each i sv (entry_get e)
    exact ⟨v, start_get h1, h2⟩
  par := fun p hp => by
    obtain ⟨d, h1, h2⟩ := mem_pars.mp hp
    refine ⟨d, ?_, start_get h2⟩
    unfold entry
    have hl := (List.getElem?_eq_some_iff.mp h1).1
    rw [List.getElem?_append_left (by simpa using hl), List.getElem?_map, h1]
    rfl
  apart := fun i j a oi oj => A.apart i j a (own_start A oi) (own_start A oj)
  notM := fun i a o m => m.2 i (own_start A o)
  fz := fun a f => .inl f
theorem outs_get {n : Nat} {ρ : Env} {i : Nat} {sv : SV} (h : ρ[i]? = some (some sv)) (hi : i < n) (ho : sv.opaque = false := by rfl) : (outsOf n ρ)[i]? = some sv.get := by
  unfold outsOf
  rw [List.getElem?_map, List.getElem?_range hi]
  simp [slotD_some h ho]
/-- a body's end is a def's end -/
theorem body_end {X : Cx} {vs : List V} {as : List SV} {F0 : Forb} {H : Hp} {Q : VK} {E : XK} {m : MS} {n : Nat} {σ : St} (hK : X.K = K) (hmg : X.mg = mg) (A : ArgsOk K F0 H vs as) (hlen : as.length ≤ n) (hq : match fn n m as with
      | .ok r outs => ∀ v H' F1, CallEnd F0 vs as H H' F1 → OutsOk K F1 H' vs as outs → ResOk K F1 F0 H H' vs as v r → Q v H'
      | .exc e => ∀ cls d H' F1, CallEnd F0 vs as H H' F1 → (∀ (i : Nat) (d : D), as[i]? ≠ some (SV.par d)) → ExcOk mg H' e cls d → E cls d H'
      | .no => False) :
    PostS X (fun cls d _ H => E cls d H) (zone H F0 vs as) σ F0 (entry n as) H { nx := fun _ H' => Q .non H', rt := Q } (m (entry n as)) := by
  subst hK hmg
  have ce : ∀ {F' : Forb} {ρ' : Env} {σ' : St} {H' : Hp}, SR X.K (zone H F0 vs as) F' ρ' σ' H' → Car F0 F' H H' → CallEnd F0 vs as H H' F' := fun {F' ρ' σ' H'} S c => by
    refine ⟨c, fun a f => ?_, fun a f n => S.keepM a ⟨f, n⟩, S.dom, S.al, S.fl⟩
    by_cases hm : ∃ i, MutAt vs as i a
    · obtain ⟨i, hm⟩ := hm
      obtain ⟨d, h1, h2⟩ := S.par (i, a) (mem_pars.mpr hm)
      obtain ⟨v, e, ok⟩ := S.slot i _ h1
      rw [h2] at e; cases e
      obtain ⟨b, eb, f, _⟩ := ok
      cases eb
      exact f
    · exact S.m0 a ⟨f, fun i z => hm ⟨i, z⟩⟩
  have oo : ∀ {F' : Forb} {ρ' : Env} {σ' : St} {H' : Hp}, SR X.K (zone H F0 vs as) F' ρ' σ' H' → OutsOk X.K F' H' vs as (outsOf as.length ρ') := fun {F' ρ' σ' H'} S i a hm => by
    obtain ⟨d, h1, h2⟩ := S.par (i, a) (mem_pars.mpr hm)
    obtain ⟨v, e, ok⟩ := S.slot i _ h1
    rw [h2] at e; cases e
    obtain ⟨b, eb, f, o⟩ := ok
    cases eb
    obtain ⟨_, h3, _⟩ := hm
    exact ⟨d, outs_get h1 (List.getElem?_eq_some_iff.mp h3).1, o⟩
  unfold fn at hq
  cases g : m (entry n as) with
  | next ρ' =>
    rw [g] at hq
    exact fun σ' H' F' S st => hq .non H' F' (ce S st.car) (oo S) .non
  | brk ρ' => rw [g] at hq; exact hq.elim
  | cont ρ' => rw [g] at hq; exact hq.elim
  | no => rw [g] at hq; exact hq.elim
  | exc e ρ' =>
    rw [g] at hq
    unfold finish at hq
    cases hp : hasPar as with
    | true => rw [hp] at hq; exact hq.elim
    | false =>
      rw [hp] at hq
      intro cls d σ' H' F' S st eo
      refine hq cls d H' F' (ce S st.car) (fun i d0 z => ?_) eo
      unfold hasPar at hp
      rw [List.any_eq_false] at hp
      exact absurd (hp _ (List.mem_of_getElem? z)) (by simp)
  | ret r ρ' =>
    rw [g] at hq
    intro v σ' H' F' S st vo
    have new : ∀ {i : Nat} {a : Addr} {d : D}, ρ'[i]? = some (some (.own d)) → σ'[i]? = some (some (.ref a)) → F' a → H a = none := fun {i a d} h1 h2 f => by
      have hm : ¬ (zone H F0 vs as).M a := S.notM i a ⟨_, h1, rfl, h2⟩
      rcases st.car.fr a f with f0 | z
      · exfalso
        by_cases he : ∃ j, MutAt vs as j a
        · obtain ⟨j, he⟩ := he
          obtain ⟨d', q1, q2⟩ := S.par (j, a) (mem_pars.mpr he)
          have := S.apart i j a ⟨_, h1, rfl, h2⟩ ⟨_, q1, rfl, q2⟩
          subst this
          rw [q1] at h1
          cases h1
        · exact hm ⟨f0, fun j z => he ⟨j, z⟩⟩
      · exact z
    cases r with
    | dat d => exact hq v H' F' (ce S st.car) (oo S) vo
    | own d =>
      obtain ⟨a, e, f, o, nm, no⟩ := vo
      refine hq v H' F' (ce S st.car) (oo S) ⟨a, e, f, o, ?_⟩
      rcases st.car.fr a f with f0 | z
      · exfalso
        by_cases he : ∃ j, MutAt vs as j a
        · obtain ⟨j, he⟩ := he
          obtain ⟨d', q1, q2⟩ := S.par (j, a) (mem_pars.mpr he)
          exact no j ⟨_, q1, rfl, q2⟩
        · exact nm ⟨f0, fun j z => he ⟨j, z⟩⟩
      · exact z
    | bor i =>
      unfold finish at hq
      dsimp only at hq
      cases q : ρ'[i]? with
      | none => rw [q] at hq; exact hq.elim
      | some x =>
        cases x with
        | none => rw [q] at hq; exact hq.elim
        | some sv =>
          obtain ⟨v', e1, ok⟩ := S.slot i sv q
          rw [vo.1] at e1; cases e1
          rw [q] at hq
          cases sv with
          | dat d => exact hq v H' F' (ce S st.car) (oo S) ok
          | own d =>
            obtain ⟨a, e, f, o⟩ := ok
            subst e
            exact hq _ H' F' (ce S st.car) (oo S) ⟨a, rfl, f, o, new q vo.1 f⟩
          | par d => exact hq.elim
          | opq o => exact hq.elim
    | thg o => exact hq v H' F' (ce S st.car) (oo S) vo
end
/-- nothing is asked of the zone -/
instance (priority := low) zTrue : Zok := ⟨fun _ => True⟩
/-- THE RULE for a def -/
theorem ok_def [Tab] {K : PySem.W.Frag} {mg : Str → Option Value} {P : Program} {w : World} {base : Heap} {x qual : Str} {st : Stmt} {f : Addr} {fd : FuncData} {N ps : List Str} {k : Nat} {m : MS} (Fn : Fun K x qual st f fd) (Sc : FnScope N ps (defScope st)) (hps : ps.length ≤ N.length)
    (hbody : ∀ (cdv : Value) (A : Around) (outer : List PySem.Env) (s : Shared) (H : Hp) (E : XK), Room k (A.deeper (envOfC qual (defScope st) s.heap.objs.size f cdv)) →
      Takes (cxOf (L2.CX P w) P w K mg base N qual (defScope st) f cdv A outer s H E) (fun cls d _ H => E cls d H) →
      QB (cxOf (L2.CX P w) P w K mg base N qual (defScope st) f cdv A outer s H E) (fun cls d _ H => E cls d H) (defBody st) m) : FnOk P w K mg base (L2.CX P w) (k + 1) f fd ps (SpD K mg ps.length (fn N.length m)) := by
  refine Fn.okX Sc (fun vs H Q E h => h.1) (fun cdv A outer s H vs Q E hr h => ?_)
  obtain ⟨hl, F0, as, Ar, al, hq⟩ := h
  refine ⟨_, hbody cdv A outer s H E hr (takes_of rfl rfl rfl rfl), zone H F0 vs as, F0, entry N.length as, start_ok Ar al (by omega) trivial, ?_⟩
  exact body_end rfl rfl Ar (by rw [← Ar.len]; omega) hq
end PD

namespace PD
open PySem PySem.Spec PyProof.Rows L2
/-! ### a def called -/
def argOf (ρ : Env) : RV → Option SV
  | .dat d => some (.dat d)
  | .own d => some (.dat d)
  | .bor i => match ρ[i]? with
    | some (some (.dat d)) => some (.dat d)
    | some (some (.own d)) => some (.par d)
    | some (some (.par d)) => some (.par d)
    | _ => none
  | .thg o => some (.opq o)
theorem argOf_bor {ρ : Env} {i : Nat} {sv : SV} (h : argOf ρ (.bor i) = some sv) : (∃ d, ρ[i]? = some (some (.dat d)) ∧ sv = .dat d) ∨ (∃ d, ρ[i]? = some (some (.own d)) ∧ sv = .par d) ∨ (∃ d, ρ[i]? = some (some (.par d)) ∧ sv = .par d) := by
  dsimp only [argOf] at h
  split at h
  · rename_i q; cases h; exact .inl ⟨_, q, rfl⟩
  · rename_i q; cases h; exact .inr (.inl ⟨_, q, rfl⟩)
  · rename_i q; cases h; exact .inr (.inr ⟨_, q, rfl⟩)
  · cases h
def argsOf (ρ : Env) : List RV → Option (List SV)
  | [] => some []
  | r :: rs => match argOf ρ r, argsOf ρ rs with
    | some a, some as => some (a :: as)
    | _, _ => none
def putSlot (ρ : Env) (i : Nat) (d : D) : Env := match ρ[i]? with
  | some (some (.own _)) => ρ.set i (some (.own d))
  | some (some (.par _)) => ρ.set i (some (.par d))
  | _ => ρ
def putOuts : Env → List RV → List D → Env
  | ρ, .bor i :: rs, d :: outs => putOuts (putSlot ρ i d) rs outs
  | ρ, .dat _ :: rs, _ :: outs => putOuts ρ rs outs
  | ρ, .own _ :: rs, _ :: outs => putOuts ρ rs outs
  | ρ, .thg _ :: rs, _ :: outs => putOuts ρ rs outs
  | ρ, _, _ => ρ
def bors : List RV → List Nat
  | [] => []
  | .bor i :: rs => i :: bors rs
  | _ :: rs => bors rs
def retV : SV → Option RV
  | .dat d => some (.dat d)
  | .own d => some (.own d)
  | .par _ => none
  | .opq o => some (.thg o)
def mCall (n : Nat) (f : FS) (a : MEs) : ME := fun ρ => (a ρ).bind fun rs ρ1 => if rs.length = n ∧ (bors rs).Nodup then match argsOf ρ1 rs with
    | some as => match f as with
      | .ok r outs => match retV r with
        | some r => .ok r (putOuts ρ1 rs outs)
        | none => .no
      | .exc e => .exc e ρ1
      | .no => .no
    | none => .no
  else .no
theorem mem_bors : ∀ {rs : List RV} {i k : Nat}, rs[k]? = some (.bor i) → i ∈ bors rs
  | [], _, _, h => by simp at h
  | r :: rs, i, 0, h => by simp at h; subst h; simp [bors]
  | r :: rs, i, k + 1, h => by
    have := mem_bors (rs := rs) (k := k) (by simpa using h)
    cases r <;> simp [bors, this]
theorem putSlot_ne {ρ : Env} {i j : Nat} {d : D} (h : j ≠ i) : (putSlot ρ i d)[j]? = ρ[j]? := by
  unfold putSlot
  split
  · rw [List.getElem?_set_ne (Ne.symm h)]
  · rw [List.getElem?_set_ne (Ne.symm h)]
  · rfl
theorem putOuts_out : ∀ (rs : List RV) (outs : List D) (ρ : Env) (j : Nat), j ∉ bors rs → (putOuts ρ rs outs)[j]? = ρ[j]?
  | [], _, ρ, j, _ => by unfold putOuts; rfl
  | .bor i :: rs, [], ρ, j, _ => by unfold putOuts; rfl
  | .dat _ :: rs, [], ρ, j, _ => by unfold putOuts; rfl
  | .own _ :: rs, [], ρ, j, _ => by unfold putOuts; rfl
  | .thg _ :: rs, [], ρ, j, _ => by unfold putOuts; rfl
  | .bor i :: rs, d :: outs, ρ, j, h => by
    simp only [bors, List.mem_cons, not_or] at h
    unfold putOuts
    rw [putOuts_out rs outs _ j h.2, putSlot_ne h.1]
  | .dat _ :: rs, d :: outs, ρ, j, h => by
    unfold putOuts
    exact putOuts_out rs outs ρ j h
  | .own _ :: rs, d :: outs, ρ, j, h => by
    unfold putOuts
    exact putOuts_out rs outs ρ j h
  | .thg _ :: rs, d :: outs, ρ, j, h => by
    unfold putOuts
    exact putOuts_out rs outs ρ j h
theorem putSlot_same {ρ : Env} {i : Nat} {d : D} : (putSlot ρ i d)[i]? = match ρ[i]? with
    | some (some (.own _)) => some (some (.own d))
    | some (some (.par _)) => some (some (.par d))
    | x => x := by
  unfold putSlot
  cases q : ρ[i]? with
  | none => simp [q]
  | some x =>
    have hl : i < ρ.length := (List.getElem?_eq_some_iff.mp q).1
    cases x with
    | none => simp [q]
    | some sv =>
      cases sv with
      | dat d0 => simpa using q
      | own d0 => simp [q, hl]
      | par d0 => simp [q, hl]
      | opq _ => simpa using q
/-- what has become of slot j -/
theorem putOuts_in : ∀ (rs : List RV) (outs : List D) (ρ : Env) (j k : Nat) (d : D), (bors rs).Nodup → rs[k]? = some (.bor j) → outs[k]? = some d → (putOuts ρ rs outs)[j]? = (putSlot ρ j d)[j]?
  | [], _, _, _, _, _, _, h, _ => by simp at h
  | _ :: _, [], _, _, _, _, _, _, h => by simp at h
  | r :: rs, o :: outs, ρ, j, 0, d, hn, h, h2 => by
    simp at h h2
    subst h h2
    simp only [bors, List.nodup_cons] at hn
    unfold putOuts
    exact putOuts_out rs outs _ j hn.1
  | .bor i :: rs, o :: outs, ρ, j, k + 1, d, hn, h, h2 => by
    simp only [bors, List.nodup_cons] at hn
    have hj : j ∈ bors rs := mem_bors (k := k) (by simpa using h)
    have ne : j ≠ i := fun e => hn.1 (by rw [← e]; exact hj)
    unfold putOuts
    rw [putOuts_in rs outs _ j k d hn.2 (by simpa using h) (by simpa using h2), putSlot_same, putSlot_same, putSlot_ne ne]
  | .dat _ :: rs, o :: outs, ρ, j, k + 1, d, hn, h, h2 => by
    unfold putOuts
    exact putOuts_in rs outs ρ j k d hn (by simpa using h) (by simpa using h2)
  | .own _ :: rs, o :: outs, ρ, j, k + 1, d, hn, h, h2 => by
    unfold putOuts
    exact putOuts_in rs outs ρ j k d hn (by simpa using h) (by simpa using h2)
  | .thg _ :: rs, o :: outs, ρ, j, k + 1, d, hn, h, h2 => by
    unfold putOuts
    exact putOuts_in rs outs ρ j k d hn (by simpa using h) (by simpa using h2)
theorem argsOf_get : ∀ {rs : List RV} {as : List SV} {ρ : Env} {k : Nat} {sv : SV}, argsOf ρ rs = some as → as[k]? = some sv → ∃ r, rs[k]? = some r ∧ argOf ρ r = some sv
  | [], _, _, _, _, e, h => by cases e; simp at h
  | r :: rs, as, ρ, k, sv, e, h => by
    unfold argsOf at e
    cases q1 : argOf ρ r with
    | none => rw [q1] at e; cases e
    | some a =>
      cases q2 : argsOf ρ rs with
      | none => rw [q1, q2] at e; cases e
      | some as' =>
        rw [q1, q2] at e
        cases e
        cases k with
        | zero => simp at h; subst h; exact ⟨r, rfl, q1⟩
        | succ k =>
          obtain ⟨r', h1, h2⟩ := argsOf_get (k := k) q2 (by simpa using h)
          exact ⟨r', by simpa using h1, h2⟩
theorem argsOf_len : ∀ {rs : List RV} {as : List SV} {ρ : Env}, argsOf ρ rs = some as → as.length = rs.length
  | [], _, _, e => by cases e; rfl
  | r :: rs, as, ρ, e => by
    unfold argsOf at e
    cases q1 : argOf ρ r with
    | none => rw [q1] at e; cases e
    | some a =>
      cases q2 : argsOf ρ rs with
      | none => rw [q1, q2] at e; cases e
      | some as' =>
        rw [q1, q2] at e
        cases e
        simp [argsOf_len q2]
theorem putOuts_no : ∀ (rs : List RV) (outs : List D) (ρ : Env) (j : Nat), (¬ ∃ (k : Nat) (d : D), rs[k]? = some (RV.bor j) ∧ outs[k]? = some d) → (putOuts ρ rs outs)[j]? = ρ[j]? := by
  intro rs
  induction rs with
  | nil => intro outs ρ _ _; unfold putOuts; rfl
  | cons r rs ih =>
    intro outs ρ j hno
    cases outs with
    | nil => cases r <;> (unfold putOuts; rfl)
    | cons o outs =>
      have hno' : ¬ ∃ (k : Nat) (d : D), rs[k]? = some (RV.bor j) ∧ outs[k]? = some d := fun ⟨k, d, q1, q2⟩ => hno ⟨k + 1, d, by simpa using q1, by simpa using q2⟩
      cases r with
      | dat _ => unfold putOuts; exact ih outs ρ j hno'
      | own _ => unfold putOuts; exact ih outs ρ j hno'
      | thg _ => unfold putOuts; exact ih outs ρ j hno'
      | bor i =>
        unfold putOuts
        have : j ≠ i := fun e => hno ⟨0, o, by simp [e], by simp⟩
        rw [ih outs _ j hno', putSlot_ne this]
section
variable [Tab] [Zok] {X : Cx} {W : WX} {K : PySem.W.Frag} {Z : Zone} {σ σ1 : St} {F F1 : Forb} {ρ ρ1 : Env} {H H0 H1 : Hp}
theorem VsOk.length : ∀ {vs : List V} {rs : List RV}, VsOk K Z F ρ σ H vs rs → vs.length = rs.length
  | _, _, .nil => rfl
  | _, _, .cons _ t => by simp [VsOk.length t]
/-- the arguments, for the def -/
theorem args_ok {vs : List V} {rs : List RV} {as : List SV} (S : SR K Z F ρ σ H) (vo : VsOk K Z F ρ σ H vs rs) (nw : News H0 vs rs) (hn : (bors rs).Nodup) (g : argsOf ρ rs = some as) :
    ∃ F2, SR K Z F2 ρ σ H ∧ ArgsOk K F2 H vs as ∧ (∀ a, F2 a → F a) ∧ (∀ a, F a → F2 a ∨ H0 a = none) ∧ ∀ k a, MutAt vs as k a → ∃ i, rs[k]? = some (.bor i) ∧ OwnAt ρ σ i a := by
  have mutL : ∀ k a, MutAt vs as k a → ∃ i, rs[k]? = some (.bor i) ∧ OwnAt ρ σ i a := fun k a ⟨d, h1, h2⟩ => by
    obtain ⟨r, e1, e2⟩ := argsOf_get g h1
    obtain ⟨v, e3, ok⟩ := vo.get e1
    rw [h2] at e3; cases e3
    cases r with
    | dat d' => cases e2
    | own d' => cases e2
    | thg o => cases e2
    | bor i =>
      refine ⟨i, e1, ?_⟩
      rcases argOf_bor e2 with ⟨_, q, z⟩ | ⟨_, q, z⟩ | ⟨_, q, z⟩
      · cases z
      · exact ⟨_, q, rfl, ok.1⟩
      · exact ⟨_, q, rfl, ok.1⟩
  refine ⟨fun a => F a ∧ ¬ newAt vs rs a, S.drop (fun a z => ?_) (fun a z => ?_), ⟨by rw [vo.length, argsOf_len g], fun k sv h => ?_, fun k d h => ?_, fun j k a hj hk => ?_, S.tabs, fun a o f => S.fl a o f.1⟩, fun a f => f.1, fun a f => ?_, mutL⟩
  · obtain ⟨i, d, e1, e2⟩ := z
    obtain ⟨v, e3, ok⟩ := vo.get e1
    rw [e2] at e3; cases e3
    obtain ⟨b, e4, _, _, m, _⟩ := ok
    cases e4
    exact m
  · obtain ⟨i, d, e1, e2⟩ := z
    obtain ⟨v, e3, ok⟩ := vo.get e1
    rw [e2] at e3; cases e3
    obtain ⟨b, e4, _, _, _, o⟩ := ok
    cases e4
    exact o
  · obtain ⟨r, e1, e2⟩ := argsOf_get g h
    obtain ⟨v, e3, ok⟩ := vo.get e1
    have c : Car F (fun a => F a ∧ ¬ newAt vs rs a) H H := Car.sub fun a f => f.1
    refine ⟨v, e3, ?_⟩
    cases r with
    | dat d => cases e2; exact Rep.car c ok
    | thg o => cases e2; exact ObjR.car c ok
    | own d =>
      cases e2
      obtain ⟨a, rfl, f, o, _, _⟩ := ok
      cases d with
      | list ds =>
        obtain ⟨xs, q1, q2, q3⟩ := o
        exact .lst (fun z => z.2 ⟨k, _, e1, e3⟩) q1 q2 (q3.car c)
      | _ => exact o.elim
    | bor i =>
      have go : ∀ {sv' : SV}, ρ[i]? = some (some sv') → SlotOk K F H v sv' ∧ (∀ a, v = .ref a → sv'.mut = true → ¬ newAt vs rs a) := fun {sv'} q => by
        obtain ⟨v', h1, h2⟩ := S.slot i sv' q
        rw [ok.1] at h1; cases h1
        refine ⟨h2, fun a ea hm z => ?_⟩
        subst ea
        obtain ⟨i', d', z1, z2⟩ := z
        obtain ⟨v2, z3, ok2⟩ := vo.get z1
        rw [z2] at z3; cases z3
        obtain ⟨b, z4, _, _, _, no⟩ := ok2
        cases z4
        exact no i ⟨_, q, hm, ok.1⟩
      rcases argOf_bor e2 with ⟨_, q, rfl⟩ | ⟨_, q, rfl⟩ | ⟨_, q, rfl⟩
      · exact Rep.car c (go q).1
      · obtain ⟨⟨a, ea, f, o⟩, nn⟩ := go q
        exact ⟨a, ea, ⟨f, nn a ea rfl⟩, o.car c rfl⟩
      · obtain ⟨⟨a, ea, f, o⟩, nn⟩ := go q
        exact ⟨a, ea, ⟨f, nn a ea rfl⟩, o.car c rfl⟩
  · obtain ⟨r, e1, e2⟩ := argsOf_get g h
    cases r with
    | dat _ => cases e2
    | own _ => cases e2
    | thg _ => cases e2
    | bor i =>
      rcases argOf_bor e2 with ⟨_, q, z⟩ | ⟨_, q, z⟩ | ⟨_, q, z⟩ <;> cases z
  · obtain ⟨i, h1, o1⟩ := mutL j a hj
    obtain ⟨i2, h2, o2⟩ := mutL k a hk
    have e := S.apart i i2 a o1 o2
    subst e
    have inj : ∀ (rs : List RV) (j k : Nat), (bors rs).Nodup → rs[j]? = some (RV.bor i) → rs[k]? = some (RV.bor i) → j = k := by
      intro rs
      induction rs with
      | nil => intro j k _ h; simp at h
      | cons r rs ih =>
        intro j k hn h h'
        cases j with
        | zero =>
          cases k with
          | zero => rfl
          | succ k =>
            simp at h
            subst h
            simp only [bors, List.nodup_cons] at hn
            exact absurd (mem_bors (k := k) (by simpa using h')) hn.1
        | succ j =>
          cases k with
          | zero =>
            simp at h'
            subst h'
            simp only [bors, List.nodup_cons] at hn
            exact absurd (mem_bors (k := j) (by simpa using h)) hn.1
          | succ k =>
            have hn' : (bors rs).Nodup := by
              cases r with
              | bor q => simp only [bors, List.nodup_cons] at hn; exact hn.2
              | dat _ => exact hn
              | own _ => exact hn
              | thg _ => exact hn
            rw [ih j k hn' (by simpa using h) (by simpa using h')]
    exact inj rs j k hn h1 h2
  · by_cases z : newAt vs rs a
    · right
      obtain ⟨i, d, e1, e2⟩ := z
      exact nw.get e1 e2 a rfl
    · exact .inl ⟨f, z⟩
/-- behind a call -/
theorem call_after {vs : List V} {rs : List RV} {as : List SV} {outs : List D} {H' : Hp} {F' : Forb} (S : SR K Z F ρ σ H) (hn : (bors rs).Nodup) (g : argsOf ρ rs = some as)
    (hm : ∀ k a, MutAt vs as k a → ∃ i, rs[k]? = some (RV.bor i) ∧ OwnAt ρ σ i a) (vo : ∀ (k i : Nat), rs[k]? = some (RV.bor i) → ∃ v, vs[k]? = some v ∧ σ[i]? = some (some v)) (ce : CallEnd F vs as H H' F') (oo : OutsOk K F' H' vs as outs) :
    SR K Z F' (putOuts ρ rs outs) σ H' ∧ Step σ F F' ρ (putOuts ρ rs outs) H H' := by
  -- the slots behind it
  have key : ∀ (j : Nat) (sv : SV), (putOuts ρ rs outs)[j]? = some (some sv) → ∃ sv0, ρ[j]? = some (some sv0) ∧ sv0.mut = sv.mut ∧ (sv0 = sv ∨ ∃ (k : Nat) (d : D), rs[k]? = some (RV.bor j) ∧ outs[k]? = some d ∧ sv.get = d ∧ sv.mut = true) ∧ ((∃ d, sv0 = .par d) ↔ ∃ d, sv = .par d) := fun j sv h => by
    by_cases hj : ∃ (k : Nat) (d : D), rs[k]? = some (RV.bor j) ∧ outs[k]? = some d
    · obtain ⟨k, d, h1, h2⟩ := hj
      rw [putOuts_in rs outs ρ j k d hn h1 h2, putSlot_same] at h
      split at h
      · rename_i q; cases h; exact ⟨_, q, rfl, .inr ⟨k, d, h1, h2, rfl, rfl⟩, by simp⟩
      · rename_i q; cases h; exact ⟨_, q, rfl, .inr ⟨k, d, h1, h2, rfl, rfl⟩, by simp⟩
      · exact ⟨sv, h, rfl, .inl rfl, Iff.rfl⟩
    · have stay : (putOuts ρ rs outs)[j]? = ρ[j]? := by
        have go : ∀ (rs : List RV) (outs : List D) (ρ : Env), (¬ ∃ (k : Nat) (d : D), rs[k]? = some (RV.bor j) ∧ outs[k]? = some d) → (putOuts ρ rs outs)[j]? = ρ[j]? := by
          intro rs
          induction rs with
          | nil => intro outs ρ _; unfold putOuts; rfl
          | cons r rs ih =>
            intro outs ρ hno
            cases outs with
            | nil => cases r <;> (unfold putOuts; rfl)
            | cons o outs =>
              have hno' : ¬ ∃ (k : Nat) (d : D), rs[k]? = some (RV.bor j) ∧ outs[k]? = some d := fun ⟨k, d, q1, q2⟩ => hno ⟨k + 1, d, by simpa using q1, by simpa using q2⟩
              cases r with
              | dat _ => unfold putOuts; exact ih outs ρ hno'
              | own _ => unfold putOuts; exact ih outs ρ hno'
              | thg _ => unfold putOuts; exact ih outs ρ hno'
              | bor i =>
                unfold putOuts
                have : j ≠ i := fun e => hno ⟨0, o, by simp [e], by simp⟩
                rw [ih outs _ hno', putSlot_ne this]
        exact go rs outs ρ hj
      rw [stay] at h
      exact ⟨sv, h, rfl, .inl rfl, Iff.rfl⟩
  have own0 : ∀ i a, OwnAt (putOuts ρ rs outs) σ i a → OwnAt ρ σ i a := fun i a ⟨sv, h1, h2, h3⟩ => by
    obtain ⟨sv0, q1, q2, _⟩ := key i sv h1
    exact ⟨sv0, q1, q2.trans h2, h3⟩
  have notPassed : ∀ a, (∀ i, ¬ OwnAt ρ σ i a) → ∀ k, ¬ MutAt vs as k a := fun a h k z => by
    obtain ⟨i, _, o⟩ := hm k a z
    exact h i o
  refine ⟨⟨?_, ce.al, fun a m => ce.up a (S.m0 a m), fun a m => ?_, fun a u n nt e => ?_, fun a h => ce.dom a (S.dom a h), fun j sv h => ?_, fun p hp => ?_, fun i j a oi oj => S.apart i j a (own0 i a oi) (own0 j a oj), fun i a o => S.notM i a (own0 i a o), fun a f => ?_, ce.car.tb S.tabs, ce.fl, S.zok, fun p hp => ?_⟩,
    ⟨ce.car, fun a f => .inl (ce.up a f), fun a f n => ce.keep a f (notPassed a n), own0, ce.dom, fun i h => ?_⟩⟩
  · have go : ∀ (rs : List RV) (outs : List D) (ρ : Env), (putOuts ρ rs outs).length = ρ.length := by
      intro rs
      induction rs with
      | nil => intro outs ρ; unfold putOuts; rfl
      | cons r rs ih =>
        intro outs ρ
        cases outs with
        | nil => cases r <;> (unfold putOuts; rfl)
        | cons o outs =>
          cases r with
          | dat _ => unfold putOuts; exact ih outs ρ
          | own _ => unfold putOuts; exact ih outs ρ
          | thg _ => unfold putOuts; exact ih outs ρ
          | bor i =>
            unfold putOuts
            rw [ih]
            unfold putSlot
            split <;> simp
    rw [go]
    exact S.len
  · rw [ce.keep a (S.m0 a m) (notPassed a fun i o => S.notM i a o m)]
    exact S.keepM a m
  · have hF : ¬ F a := fun f => by
      rcases S.fz a f with z | z
      · exact n z
      · rw [e] at z; cases z
    exact ce.car.rd a u hF nt (S.ext a u n nt e)
  · obtain ⟨sv0, q1, q2, q3, q4⟩ := key j sv h
    obtain ⟨v, e1, ok⟩ := S.slot j sv0 q1
    refine ⟨v, e1, ?_⟩
    rcases q3 with rfl | ⟨k, d, r1, r2, r3, r4⟩
    · -- not changed, or nothing was said
      cases sv0 with
      | dat d => exact Rep.car ce.car ok
      | own d =>
        obtain ⟨a, rfl, f, o⟩ := ok
        by_cases hp : ∃ k, MutAt vs as k a
        · obtain ⟨k, hk⟩ := hp
          obtain ⟨d', w1, w2⟩ := oo k a hk
          obtain ⟨i, r1, o1⟩ := hm k a hk
          have ei := S.apart i j a o1 ⟨_, q1, rfl, e1⟩
          subst ei
          rw [putOuts_in rs outs ρ i k d' hn r1 w1, putSlot_same, q1] at h
          cases h
          exact ⟨a, rfl, ce.up a f, w2⟩
        · exact ⟨a, rfl, ce.up a f, o.car ce.car (ce.keep a f fun k z => hp ⟨k, z⟩)⟩
      | par d =>
        obtain ⟨a, rfl, f, o⟩ := ok
        by_cases hp : ∃ k, MutAt vs as k a
        · obtain ⟨k, hk⟩ := hp
          obtain ⟨d', w1, w2⟩ := oo k a hk
          obtain ⟨i, r1, o1⟩ := hm k a hk
          have ei := S.apart i j a o1 ⟨_, q1, rfl, e1⟩
          subst ei
          rw [putOuts_in rs outs ρ i k d' hn r1 w1, putSlot_same, q1] at h
          cases h
          exact ⟨a, rfl, ce.up a f, w2⟩
        · exact ⟨a, rfl, ce.up a f, o.car ce.car (ce.keep a f fun k z => hp ⟨k, z⟩)⟩
      | opq o => exact ObjR.car ce.car ok
    · obtain ⟨v', e2, e3⟩ := vo k j r1
      rw [e1] at e3; cases e3
      have hkm : ∃ a, v = .ref a ∧ F a ∧ MutAt vs as k a := by
        have hk : ∃ asv, as[k]? = some asv ∧ argOf ρ (.bor j) = some asv := by
          have hlt : k < as.length := by
            have := (List.getElem?_eq_some_iff.mp r1).1
            rw [argsOf_len g]; exact this
          obtain ⟨r', z1, z2⟩ := argsOf_get g (List.getElem?_eq_getElem hlt)
          rw [r1] at z1; cases z1
          exact ⟨_, List.getElem?_eq_getElem hlt, z2⟩
        obtain ⟨asv, z1, z2⟩ := hk
        dsimp only [argOf] at z2
        rw [q1] at z2
        cases sv0 with
        | dat d0 => rw [← q2] at r4; cases r4
        | own d0 =>
          cases z2
          obtain ⟨a, ea, f, _⟩ := ok
          exact ⟨a, ea, f, d0, z1, by rw [← ea]; exact e2⟩
        | par d0 =>
          cases z2
          obtain ⟨a, ea, f, _⟩ := ok
          exact ⟨a, ea, f, d0, z1, by rw [← ea]; exact e2⟩
        | opq _ => rw [← q2] at r4; cases r4
      obtain ⟨a, ea, f, hk⟩ := hkm
      obtain ⟨d', w1, w2⟩ := oo k a hk
      rw [r2] at w1; cases w1
      cases sv with
      | dat _ => cases r4
      | own dd => cases r3; exact ⟨a, ea, ce.up a f, w2⟩
      | par dd => cases r3; exact ⟨a, ea, ce.up a f, w2⟩
      | opq _ => cases r4
  · obtain ⟨d, h1, h2⟩ := S.par p hp
    have : ∃ d', (putOuts ρ rs outs)[p.1]? = some (some (.par d')) := by
      by_cases hj : ∃ (k : Nat) (d : D), rs[k]? = some (RV.bor p.1) ∧ outs[k]? = some d
      · obtain ⟨k, d', z1, z2⟩ := hj
        rw [putOuts_in rs outs ρ p.1 k d' hn z1 z2, putSlot_same, h1]
        exact ⟨d', rfl⟩
      · have go : ∀ (rs : List RV) (outs : List D) (ρ : Env) (j : Nat), (¬ ∃ (k : Nat) (d : D), rs[k]? = some (RV.bor j) ∧ outs[k]? = some d) → (putOuts ρ rs outs)[j]? = ρ[j]? := by
          intro rs
          induction rs with
          | nil => intro outs ρ _ _; unfold putOuts; rfl
          | cons r rs ih =>
            intro outs ρ j hno
            cases outs with
            | nil => cases r <;> (unfold putOuts; rfl)
            | cons o outs =>
              have hno' : ¬ ∃ (k : Nat) (d : D), rs[k]? = some (RV.bor j) ∧ outs[k]? = some d := fun ⟨k, d, q1, q2⟩ => hno ⟨k + 1, d, by simpa using q1, by simpa using q2⟩
              cases r with
              | dat _ => unfold putOuts; exact ih outs ρ j hno'
              | own _ => unfold putOuts; exact ih outs ρ j hno'
              | thg _ => unfold putOuts; exact ih outs ρ j hno'
              | bor i =>
                unfold putOuts
                have : j ≠ i := fun e => hno ⟨0, o, by simp [e], by simp⟩
                rw [ih outs _ j hno', putSlot_ne this]
        rw [go rs outs ρ p.1 hj]
        exact ⟨d, h1⟩
    obtain ⟨d', h3⟩ := this
    exact ⟨d', h3, h2⟩
  · rcases ce.car.fr a f with z | z
    · exact S.fz a z
    · right
      cases q : Z.H a with
      | none => rfl
      | some o => exact absurd z (S.dom a (nn q))
  · obtain ⟨⟨o, h1, h4⟩, h2⟩ := S.opq p hp
    refine ⟨⟨o, ?_, h4⟩, h2⟩
    by_cases hj : ∃ (k : Nat) (d : D), rs[k]? = some (RV.bor p.1) ∧ outs[k]? = some d
    · obtain ⟨k, d', z1, z2⟩ := hj
      rw [putOuts_in rs outs ρ p.1 k d' hn z1 z2, putSlot_same, h1]
    · rw [putOuts_no rs outs ρ p.1 hj, h1]
  · unfold slotD at h ⊢
    by_cases hj : ∃ (k : Nat) (d : D), rs[k]? = some (RV.bor i) ∧ outs[k]? = some d
    · obtain ⟨k, d', z1, z2⟩ := hj
      rw [putOuts_in rs outs ρ i k d' hn z1 z2, putSlot_same]
      cases q : ρ[i]? with
      | none => rw [q] at h; exact absurd rfl h
      | some x =>
        cases x with
        | none => rw [q] at h; exact absurd rfl h
        | some sv => cases sv <;> simp [q] at h ⊢
    · have go : ∀ (rs : List RV) (outs : List D) (ρ : Env) (j : Nat), (¬ ∃ (k : Nat) (d : D), rs[k]? = some (RV.bor j) ∧ outs[k]? = some d) → (putOuts ρ rs outs)[j]? = ρ[j]? := by
        intro rs
        induction rs with
        | nil => intro outs ρ _ _; unfold putOuts; rfl
        | cons r rs ih =>
          intro outs ρ j hno
          cases outs with
          | nil => cases r <;> (unfold putOuts; rfl)
          | cons o outs =>
            have hno' : ¬ ∃ (k : Nat) (d : D), rs[k]? = some (RV.bor j) ∧ outs[k]? = some d := fun ⟨k, d, q1, q2⟩ => hno ⟨k + 1, d, by simpa using q1, by simpa using q2⟩
            cases r with
            | dat _ => unfold putOuts; exact ih outs ρ j hno'
            | own _ => unfold putOuts; exact ih outs ρ j hno'
            | thg _ => unfold putOuts; exact ih outs ρ j hno'
            | bor i =>
              unfold putOuts
              have : j ≠ i := fun e => hno ⟨0, o, by simp [e], by simp⟩
              rw [ih outs _ j hno', putSlot_ne this]
      rw [go rs outs ρ i hj]
      exact h
/-- f(..), what the call reads -/
theorem call_read {n : Nat} {m : MEs} {g : FS} {σ : St} {H : Hp} {Q : VK} (hq : RE X W (mCall n g m) σ H Q) : tCallS (SpD X.K X.mg n g) (fun σ => WE W σ) (RA X W m) σ H Q := by
  obtain ⟨Z, F, ρ, S, k⟩ := hq
  refine ⟨Z, F, ρ, S, Post.bind0 k fun rs ρ1 H1 F1 e1 S1 st1 k1 vs vo nw => ?_⟩
  split at k1
  · rename_i hlen
    cases ga : argsOf ρ1 rs with
    | none => rw [ga] at k1; exact k1.elim
    | some as =>
      rw [ga] at k1
      obtain ⟨F2, S2, Ar, l1, l2, hm2⟩ := args_ok S1 vo nw hlen.2 ga
      have st2 := st1.lose2 S.al l1 l2
      have vb : ∀ (k i : Nat), rs[k]? = some (RV.bor i) → ∃ v, vs[k]? = some v ∧ σ[i]? = some (some v) := fun k i h => by
        obtain ⟨v, h1, h2⟩ := vo.get h
        exact ⟨v, h1, h2.1⟩
      refine ⟨by rw [vo.length]; exact hlen.1, F2, as, Ar, S2.al, ?_⟩
      dsimp only at k1
      cases gf : g as with
      | ok r outs =>
        rw [gf] at k1
        dsimp only at k1
        intro v H' F3 ce oo ro
        have oo' : OutsOk X.K F3 H' vs as outs := oo
        cases r with
        | dat d =>
          obtain ⟨S3, st3⟩ := call_after S2 hlen.2 ga hm2 vb ce oo'
          exact k1 H' F3 S3 (st2.trans st3) v ro trivial
        | own d =>
          obtain ⟨S3, st3⟩ := call_after S2 hlen.2 ga hm2 vb ce oo'
          obtain ⟨a, rfl, fa, oa, na⟩ := ro
          refine k1 H' F3 S3 (st2.trans st3) _ ⟨a, rfl, fa, oa, fun m => S2.al a (S2.m0 a m) na, fun i o => ?_⟩ fun b eb => ?_
          · obtain ⟨sv, h1, h2, h3⟩ := st3.ow i a o
            obtain ⟨v', g1, g2⟩ := S2.slot i sv h1
            rw [h3] at g1; cases g1
            cases sv with
            | dat _ => cases h2
            | own _ => obtain ⟨b, eb, fb, _⟩ := g2; cases eb; exact S2.al _ fb na
            | par _ => obtain ⟨b, eb, fb, _⟩ := g2; cases eb; exact S2.al _ fb na
            | opq => cases h2
          · cases eb
            cases q : H a with
            | none => rfl
            | some o => exact absurd na (st2.dom a (nn q))
        | par d => exact k1.elim
        | opq o =>
          obtain ⟨S3, st3⟩ := call_after S2 hlen.2 ga hm2 vb ce oo'
          exact k1 H' F3 S3 (st2.trans st3) v ro trivial
      | exc ex =>
        rw [gf] at k1
        dsimp only at k1
        intro cls d H' F3 ce np ex'
        have e0 : ∀ (rs : List RV) (ρ : Env), putOuts ρ rs [] = ρ := by
          intro rs ρ
          cases rs with
          | nil => unfold putOuts; rfl
          | cons r rs => cases r <;> (unfold putOuts; rfl)
        obtain ⟨S3, st3⟩ := call_after (outs := []) S2 hlen.2 ga hm2 vb ce (fun i a ⟨d', z, _⟩ => absurd z (np i d'))
        rw [e0] at S3 st3
        exact k1 cls d H' F3 S3 (st2.trans st3) ex'
      | no => rw [gf] at k1; exact k1.elim
  · exact k1.elim
theorem q_call_of {c : Expr} {n : Nat} {m : MEs} {g : FS} (h : PE X c (tCallS (SpD X.K X.mg n g) (fun σ => WE W σ) (RA X W m))) : QE X W c (mCall n g m) := PE.of h fun _ _ _ hq => call_read hq
/-- f(..) -/
theorem q_call {f : Addr} {fd : FuncData} {ps : List Str} {k : Nat} {x : Str} {p pos : Pos} {e : Expr} {es : List Expr} {m : MEs} {g : FS} (Fn : FnOk X.prog X.w X.K X.mg X.base (L2.CX X.prog X.w) k f fd ps (SpD X.K X.mg ps.length g)) (hr : Room k X.A) (hg : Gl X x) (hm : X.mg x = some (.ref f)) (hk : PySem.W.keepIn X.K (.ref f) = true) (hb : Binds X.K fd ps []) (tk : Takes X W) (ha : QA X W (e :: es) m)
    (hdb : (x == ("__debug__" : Str)) = false := by decide) (he : starEach (e :: es) X.env = (false, eval e X.env) :: starEach es X.env := by rfl) (hpl : (backTo pos (starEach es X.env)).any (·.1) = false := by rfl) :
    QE X W (.Call (.Name x p) (e :: es) [] pos) (mCall ps.length g m) := by
  exact q_call_of (pe_callS Fn hr hg hm hk hb (fun σ => passAt tk σ) ha hdb he hpl)
end
end PD

namespace PD
open PySem PySem.Spec PyProof.Rows L2
/-! ### a list of one's own is changed -/
def mutL (ρ : Env) (i : Nat) : Option (List D) := match ρ[i]? with
  | some (some (.own (.list ds))) => some ds
  | some (some (.par (.list ds))) => some ds
  | _ => none
theorem mutL_some {ρ : Env} {i : Nat} {ds : List D} (h : mutL ρ i = some ds) : ρ[i]? = some (some (.own (.list ds))) ∨ ρ[i]? = some (some (.par (.list ds))) := by
  unfold mutL at h
  split at h
  · rename_i q; cases h; exact .inl q
  · rename_i q; cases h; exact .inr q
  · cases h
section
variable [Tab] [Zok] {X : Cx} {W : WX} {K : PySem.W.Frag} {Z : Zone} {σ σ1 : St} {F F1 : Forb} {ρ ρ1 : Env} {H H0 H1 : Hp}
theorem car_upd {a : Addr} {o : HO} {xs : List V} (f : F a) (hx : H a = some (.lst xs)) : Car F F H (upd H a o) := ⟨fun b u n _ e => by rw [upd_ne (fun e2 => n (by rw [e2]; exact f))]; exact e, fun b f => .inl f, tabs_upd hx⟩
theorem SR.own_at {i : Nat} {ds : List D} (S : SR K Z F ρ σ H) (h : mutL ρ i = some ds) : ∃ a xs, σ[i]? = some (some (.ref a)) ∧ F a ∧ H a = some (.lst xs) ∧ xs.length ≤ sizeLine ∧ RepAll K F H xs ds := by
  rcases mutL_some h with q | q
  · obtain ⟨v, h1, a, rfl, f, xs, h2, h3, h4⟩ := S.slot i _ q
    exact ⟨a, xs, h1, f, h2, h3, h4⟩
  · obtain ⟨v, h1, a, rfl, f, xs, h2, h3, h4⟩ := S.slot i _ q
    exact ⟨a, xs, h1, f, h2, h3, h4⟩
theorem putOuts_one {i : Nat} {d : D} : putOuts ρ [.bor i] [d] = putSlot ρ i d := by
  unfold putOuts; unfold putOuts; rfl
theorem SR.mutate {i : Nat} {ds ds' : List D} {a : Addr} {vs : List V} (S : SR K Z F ρ σ H) (h : mutL ρ i = some ds) (ha : σ[i]? = some (some (.ref a))) (r : RepAll K F H vs ds') (z : vs.length ≤ sizeLine) :
    SR K Z F (putSlot ρ i (.list ds')) σ (upd H a (.lst vs)) ∧ Step σ F F ρ (putSlot ρ i (.list ds')) H (upd H a (.lst vs)) := by
  obtain ⟨a', xs, h1, f, h2, h3, h4⟩ := S.own_at h
  rw [ha] at h1; cases h1
  have c : Car F F H (upd H a (.lst vs)) := car_upd f h2
  have ar : argOf ρ (.bor i) = some (.par (.list ds)) := by
    dsimp only [argOf]
    rcases mutL_some h with q | q <;> rw [q]
  have ga : argsOf ρ [.bor i] = some [.par (.list ds)] := by
    unfold argsOf
    rw [ar]
    rfl
  have hM : MutAt [.ref a] [.par (.list ds)] 0 a := ⟨_, rfl, rfl⟩
  rw [← putOuts_one]
  refine call_after S (as := [.par (.list ds)]) (vs := [.ref a]) (by simp [bors]) ga (fun k b ⟨d, e1, e2⟩ => ?_) (fun k j e => ?_) ⟨c, fun _ f => f, fun b fb n => ?_, fun b hb => ?_, fun b fb => ?_, fun b o fb e => ?_⟩ (fun k b ⟨d, e1, e2⟩ => ?_)
  · cases k with
    | zero =>
      simp at e2; subst e2
      refine ⟨i, rfl, ?_⟩
      rcases mutL_some h with q | q
      · exact ⟨_, q, rfl, ha⟩
      · exact ⟨_, q, rfl, ha⟩
    | succ k => simp at e1
  · cases k with
    | zero => simp at e; subst e; exact ⟨_, rfl, ha⟩
    | succ k => simp at e
  · exact upd_ne fun e => n 0 (by rw [e]; exact hM)
  · by_cases e : b = a
    · subst e; rw [upd_same]; exact fun e => nomatch e
    · rw [upd_ne e]; exact hb
  · by_cases e : b = a
    · subst e; rw [upd_same]; exact fun e => nomatch e
    · rw [upd_ne e]; exact S.al b fb
  · by_cases q : b = a
    · subst q; rw [upd_same] at e; cases e; exact trivial
    · rw [upd_ne q] at e; exact S.fl b o fb e
  · cases k with
    | zero =>
      simp at e2; subst e2
      exact ⟨_, rfl, vs, upd_same .., z, r.car c⟩
    | succ k => simp at e1
end
/-- xs.append(e) -/
def mAppend (i : Nat) (m : MEs) : ME := fun ρ => if (mutL ρ i).isSome then (m ρ).bind fun rs ρ1 => match mutL ρ1 i, frz rs with
    | some ds, some [d] => if ds.length < LINE then .ok (.dat .none) (putSlot ρ1 i (.list (ds ++ [d]))) else .no
    | _, _ => .no
  else .no
def mExtend (i : Nat) (m : MEs) : ME := fun ρ => if (mutL ρ i).isSome then (m ρ).bind fun rs ρ1 => match mutL ρ1 i, rs with
    | some ds, [.own (.list es)] => if ds.length + es.length ≤ LINE then .ok (.dat .none) (putSlot ρ1 i (.list (ds ++ es))) else .no
    | _, _ => .no
  else .no
def mPop (i : Nat) : ME := fun ρ => match mutL ρ i with
  | some ds => match ds.getLast? with
    | some d => .ok (.dat d) (putSlot ρ i (.list ds.dropLast))
    | none => .no
  | none => .no
def mPopAt (i : Nat) (m : MEs) : ME := fun ρ => if (mutL ρ i).isSome then (m ρ).bind fun rs ρ1 => match mutL ρ1 i, rs with
    | some ds, [.dat (.int k)] => match ixN ds.length k with
      | some j => match ds[j]? with
        | some d => .ok (.dat d) (putSlot ρ1 i (.list (ds.eraseIdx j)))
        | none => .no
      | none => .no
    | _, _ => .no
  else .no
section
variable [Tab] [Zok] {X : Cx} {W : WX} {K : PySem.W.Frag} {Z : Zone} {σ σ1 : St} {F F1 : Forb} {ρ ρ1 : Env} {H H0 H1 : Hp}
theorem tyList {a : Addr} {xs : List V} (h : H a = some (.lst xs)) : tyV K "list" (.ref a) H := .inl ⟨rfl, xs, .inl (.inl h)⟩
theorem q_append {i : Nat} {o : Expr} {e : Expr} {es : List Expr} {m : MEs} {apos pos : Pos} (ho : PE X o (tVar i)) (ha : QA X W (e :: es) m)
    (hbase : attributeBase o "append" X.env (eval o X.env) = eval o X.env := by rfl)
    (hfew : ((backTo pos (starEach (e :: es) X.env)).all (fun x => !x.1) && (backToKw pos (keywordEach [] X.env)).all (fun x => x.1.isSome)
      && decide ((e :: es).length + ([] : List Keyword).length + (if ([] : List Keyword).isEmpty then 0 else 1) < 30)) = true := by rfl)
    (hline : (apos.endLine == pos.line) = true := by rfl) (hs : starEach (e :: es) X.env = (false, eval e X.env) :: starEach es X.env := by rfl) (hplain : (backTo pos (starEach es X.env)).any (·.1) = false := by rfl) :
    QE X W (.Call (.Attribute o "append" apos) (e :: es) [] pos) (mAppend i m) := by
  refine PE.of (pe_bm PySem.F.plainAttrs_list PySem.F.slot_list_append PySem.F.type_list_append mt_append ho ha hbase hfew hline hs hplain) fun σ H Q hq => ?_
  obtain ⟨Z, F, ρ, S, k⟩ := hq
  unfold mAppend at k
  cases g0 : mutL ρ i with
  | none => rw [g0] at k; exact k.elim
  | some ds0 =>
    rw [g0] at k
    obtain ⟨a, xs0, h1, f0, h2, _, _⟩ := S.own_at g0
    refine ⟨_, h1, tyList h2, Z, F, ρ, S, Post.bind0 (by simpa using k) fun rs ρ1 H1 F1 e1 S1 st1 k1 vs vo nw => ?_⟩
    cases g1 : mutL ρ1 i with
    | none => rw [g1] at k1; exact k1.elim
    | some ds =>
      cases g2 : frz rs with
      | none => rw [g1, g2] at k1; exact k1.elim
      | some es' =>
        rw [g1, g2] at k1
        match es', k1, g2 with
        | [], k1, _ => exact k1.elim
        | _ :: _ :: _, k1, _ => exact k1.elim
        | [d], k1, g2 =>
          dsimp only at k1
          split at k1
          · rename_i hz
            obtain ⟨S2, r, hq⟩ := freeze S1 vo nw g2
            have st2 := st1.lose S.al hq
            obtain ⟨b, xs, q1, q2, q3, q4, q5⟩ := S2.own_at g1
            rw [h1] at q1; cases q1
            cases r with
            | cons r r' =>
              cases r'
              have hz' : xs.length < sizeLine := by rw [q5.length, line_eq]; exact hz
              obtain ⟨S3, st3⟩ := S2.mutate (vs := xs ++ [_]) g1 h1 (q5.append (.cons r .nil)) (by rw [List.length_append]; exact hz')
              exact ⟨_, xs, _, rfl, rfl, q3, hz', k1 _ _ S3 (st2.trans st3) _ .non trivial⟩
          · exact k1.elim
theorem q_extend {i : Nat} {o : Expr} {e : Expr} {es : List Expr} {m : MEs} {apos pos : Pos} (ho : PE X o (tVar i)) (ha : QA X W (e :: es) m)
    (hbase : attributeBase o "extend" X.env (eval o X.env) = eval o X.env := by rfl)
    (hfew : ((backTo pos (starEach (e :: es) X.env)).all (fun x => !x.1) && (backToKw pos (keywordEach [] X.env)).all (fun x => x.1.isSome)
      && decide ((e :: es).length + ([] : List Keyword).length + (if ([] : List Keyword).isEmpty then 0 else 1) < 30)) = true := by rfl)
    (hline : (apos.endLine == pos.line) = true := by rfl) (hs : starEach (e :: es) X.env = (false, eval e X.env) :: starEach es X.env := by rfl) (hplain : (backTo pos (starEach es X.env)).any (·.1) = false := by rfl) :
    QE X W (.Call (.Attribute o "extend" apos) (e :: es) [] pos) (mExtend i m) := by
  refine PE.of (pe_bm PySem.F.plainAttrs_list PySem.F.slot_list_extend PySem.F.type_list_extend mt_extend ho ha hbase hfew hline hs hplain) fun σ H Q hq => ?_
  obtain ⟨Z, F, ρ, S, k⟩ := hq
  unfold mExtend at k
  cases g0 : mutL ρ i with
  | none => rw [g0] at k; exact k.elim
  | some ds0 =>
    rw [g0] at k
    obtain ⟨a, xs0, h1, f0, h2, _, _⟩ := S.own_at g0
    refine ⟨_, h1, tyList h2, Z, F, ρ, S, Post.bind0 (by simpa using k) fun rs ρ1 H1 F1 e1 S1 st1 k1 vs vo nw => ?_⟩
    split at k1
    · rename_i ds es' g1
      split at k1
      · rename_i hz
        cases vo with
        | cons vo vn =>
          cases vn
          obtain ⟨c, rfl, fc, ⟨zs, w1, w2, w3⟩, hM, hO⟩ := vo
          obtain ⟨b, xs, q1, q2, q3, q4, q5⟩ := S1.own_at g1
          rw [h1] at q1; cases q1
          have hl : xs.length + zs.length ≤ sizeLine := by rw [q5.length, w3.length, line_eq]; exact hz
          obtain ⟨S3, st3⟩ := S1.mutate (vs := xs ++ zs) g1 h1 (q5.append w3) (by rw [List.length_append]; exact hl)
          exact ⟨_, _, xs, zs, rfl, rfl, q3, w1, hl, k1 _ _ S3 (st1.trans st3) _ .non trivial⟩
      · exact k1.elim
    · exact k1.elim
theorem q_pop {i : Nat} {o : Expr} {apos pos : Pos} (ho : PE X o (tVar i))
    (hbase : attributeBase o "pop" X.env (eval o X.env) = eval o X.env := by rfl) (hline : (apos.endLine == pos.line) = true := by rfl) :
    QE X W (.Call (.Attribute o "pop" apos) [] [] pos) (mPop i) := by
  refine PE.of (pe_bm0 PySem.F.plainAttrs_list PySem.F.slot_list_pop PySem.F.type_list_pop mt_pop ho hbase hline) fun σ H Q hq => ?_
  obtain ⟨Z, F, ρ, S, k⟩ := hq
  unfold mPop at k
  cases g0 : mutL ρ i with
  | none => rw [g0] at k; exact k.elim
  | some ds =>
    rw [g0] at k
    dsimp only at k
    obtain ⟨a, xs, h1, f0, h2, h3, h4⟩ := S.own_at g0
    cases g1 : ds.getLast? with
    | none => rw [g1] at k; exact k.elim
    | some d =>
      rw [g1] at k
      rw [List.getLast?_eq_getElem?, ← h4.length] at g1
      obtain ⟨y, hy, ry⟩ := h4.get g1
      have dl : RepAll X.K F H xs.dropLast ds.dropLast := by
        rw [List.dropLast_eq_take, List.dropLast_eq_take, h4.length]
        exact h4.take _
      obtain ⟨S3, st3⟩ := S.mutate (vs := xs.dropLast) g0 h1 dl (by rw [List.length_dropLast]; omega)
      exact ⟨_, h1, tyList h2, _, xs, y, rfl, rfl, h2, hy, k _ _ S3 st3 _ (ry.car (car_upd f0 h2)) trivial⟩
theorem q_popAt {i : Nat} {o : Expr} {e : Expr} {es : List Expr} {m : MEs} {apos pos : Pos} (ho : PE X o (tVar i)) (ha : QA X W (e :: es) m)
    (hbase : attributeBase o "pop" X.env (eval o X.env) = eval o X.env := by rfl)
    (hfew : ((backTo pos (starEach (e :: es) X.env)).all (fun x => !x.1) && (backToKw pos (keywordEach [] X.env)).all (fun x => x.1.isSome)
      && decide ((e :: es).length + ([] : List Keyword).length + (if ([] : List Keyword).isEmpty then 0 else 1) < 30)) = true := by rfl)
    (hline : (apos.endLine == pos.line) = true := by rfl) (hs : starEach (e :: es) X.env = (false, eval e X.env) :: starEach es X.env := by rfl) (hplain : (backTo pos (starEach es X.env)).any (·.1) = false := by rfl) :
    QE X W (.Call (.Attribute o "pop" apos) (e :: es) [] pos) (mPopAt i m) := by
  refine PE.of (pe_bm PySem.F.plainAttrs_list PySem.F.slot_list_pop PySem.F.type_list_pop mt_popAt ho ha hbase hfew hline hs hplain) fun σ H Q hq => ?_
  obtain ⟨Z, F, ρ, S, k⟩ := hq
  unfold mPopAt at k
  cases g0 : mutL ρ i with
  | none => rw [g0] at k; exact k.elim
  | some ds0 =>
    rw [g0] at k
    obtain ⟨a, xs0, h1, f0, h2, _, _⟩ := S.own_at g0
    refine ⟨_, h1, tyList h2, Z, F, ρ, S, Post.bind0 (by simpa using k) fun rs ρ1 H1 F1 e1 S1 st1 k1 vs vo nw => ?_⟩
    split at k1
    · rename_i ds n g1
      cases g2 : ixN ds.length n with
      | none => rw [g2] at k1; exact k1.elim
      | some j =>
        rw [g2] at k1
        dsimp only at k1
        cases g3 : ds[j]? with
        | none => rw [g3] at k1; exact k1.elim
        | some d =>
          rw [g3] at k1
          cases vo with
          | cons vo vn =>
            cases vn
            cases (show Rep X.K F1 H1 _ (.int n) from vo)
            obtain ⟨b, xs, q1, q2, q3, q4, q5⟩ := S1.own_at g1
            rw [h1] at q1; cases q1
            rw [← q5.length] at g2
            obtain ⟨i1, i2, i3, i4⟩ := ixN_seq g2
            obtain ⟨y, hy, ry⟩ := q5.get g3
            have zz : (sizeLine : Nat) = 16777216 := sizeLine_eq
            obtain ⟨S3, st3⟩ := S1.mutate (vs := xs.eraseIdx j) g1 h1 (q5.erase j) (Nat.le_trans (len_erase xs j) q4)
            exact ⟨_, xs, n, j, y, rfl, rfl, q3, by omega, by omega, i1, hy, k1 _ _ S3 (st1.trans st3) _ (ry.car (car_upd q2 q3)) trivial⟩
    · exact k1.elim
end
end PD

namespace PD
open PySem PySem.Spec PyProof.Rows L2
/-- xs[i] = e -/
def sSetIx (i : Nat) (ix m : ME) : MS := fun ρ => (m ρ).bindS fun r ρ1 => match frz [r], mutL ρ1 i with
  | some [d], some _ => (ix ρ1).bindS fun k ρ2 => match k, mutL ρ2 i with
    | .dat (.int n), some ds => match ixN ds.length n with
      | some j => .next (putSlot ρ2 i (.list (ds.set j d)))
      | none => .no
    | _, _ => .no
  | _, _ => .no
/-- x op= e of ints -/
def sAug (i : Nat) (f : Int → Int → Int) (m : ME) : MS := fun ρ => match ρ[i]? with
  | some (some (.dat (.int x))) => (m ρ).bindS fun r ρ1 => match r with
    | .dat (.int y) => if parAt ρ1 i then .no else .next (ρ1.set i (some (.dat (.int (f x y)))))
    | _ => .no
  | _ => .no
/-- one of several targets -/
def put1 (o : Bool) (i : Nat) (r : RV) (ρ : Env) : Option Env := if parAt ρ i then none else match o, r with
  | true, .own d => some (ρ.set i (some (.own d)))
  | false, .dat d => some (ρ.set i (some (.dat d)))
  | false, .own d => some (ρ.set i (some (.dat d)))
  | _, _ => none
def sPar (p q : Nat × Bool) (ma mb : ME) : MS := fun ρ => (ma ρ).bindS fun r ρ1 => (mb ρ1).bindS fun t ρ2 => match put1 p.2 p.1 r ρ2 with
  | some ρ3 => match t with
    | .bor _ => .no
    | .thg _ => .no
    | _ => match put1 q.2 q.1 t ρ3 with
      | some ρ4 => .next ρ4
      | none => .no
  | none => .no
def sPar3 (p q o : Nat × Bool) (ma mb mc : ME) : MS := fun ρ => (ma ρ).bindS fun r ρ1 => (mb ρ1).bindS fun t ρ2 => (mc ρ2).bindS fun u ρ3 => match put1 p.2 p.1 r ρ3 with
  | some ρ4 => match t, u with
    | .bor _, _ => .no
    | .thg _, _ => .no
    | _, .bor _ => .no
    | _, .thg _ => .no
    | _, _ => match put1 q.2 q.1 t ρ4 with
      | some ρ5 => match put1 o.2 o.1 u ρ5 with
        | some ρ6 => .next ρ6
        | none => .no
      | none => .no
  | none => .no
section
variable [Tab] [Zok] {X : Cx} {W : WX} {K : PySem.W.Frag} {Z : Zone} {σ σ1 : St} {F F1 : Forb} {ρ ρ1 : Env} {H H0 H1 : Hp}
theorem dat_int {F : Forb} {H : Hp} {v : V} {n : Int} (h : Rep K F H v (.int n)) : v = .int n := by cases h; rfl
theorem frz1 {r : RV} {d : D} (h : frz [r] = some [d]) : r = .dat d ∨ r = .own d := by
  cases r with
  | dat e => cases h; exact .inl rfl
  | own e => cases h; exact .inr rfl
  | bor i => cases h
  | thg _ => cases h
theorem qs_setIx {i : Nat} {e o b : Expr} {m ix : ME} {pos p2 : Pos} (he : QE X W e m) (ho : PE X o (tVar i)) (hb : QE X W b ix)
    (ha : ∀ v, assign (.Subscript o b pos) X.env v = (do
      let ov ← holding [v] (eval o X.env)
      let iv ← holding [v, ov] (eval b X.env)
      standAt pos
      holding [v, ov, iv] (setItem ov iv v)
      release [v, ov, iv] []) := by intro _; rfl)
    (hs : swapsWithSole [.Subscript o b pos] e p2.line X.env = pure false := by rfl) (hw : swappedStores [.Subscript o b pos] e X.env = pure none := by rfl)
    (h1 : (assignEach [.Subscript o b pos] X.env).map (·.2) = [assign (.Subscript o b pos) X.env] := by rfl) : QS X W (.Assign [.Subscript o b pos] e p2) (sSetIx i ix m) := by
  refine PS.of (ps_asg he (pg_sub ho hb set_list ha) hs hw h1) fun D σ H hq => ?_
  obtain ⟨Z, F, ρ, S, k⟩ := hq
  refine ⟨Z, F, ρ, S, PostS.bind0 k fun r ρ1 H1 F1 e1 S1 st1 k1 v vo nw => ?_⟩
  split at k1
  · rename_i d ds0 g1 g2
    obtain ⟨F2, S2, rp, l1, l2⟩ := give S1 vo nw (frz1 g1)
    have st2 := st1.lose2 S.al l1 l2
    obtain ⟨a, xs0, h1, f0, h2, _, _⟩ := S2.own_at g2
    refine ⟨_, h1, Z, F2, ρ1, S2, PostS.bind (PostS.later k1 st2.s) fun r2 ρ2 H3 F3 e3 S3 st3 k3 v2 vo2 nw2 => ?_⟩
    split at k3
    · rename_i n ds g3
      cases g4 : ixN ds.length n with
      | none => rw [g4] at k3; exact k3.elim
      | some j =>
        rw [g4] at k3
        obtain ⟨b, xs, q1, q2, q3, q4, q5⟩ := S3.own_at g3
        rw [h1] at q1; cases q1
        obtain ⟨S4, st4⟩ := S3.mutate (vs := xs.set j v) g3 h1 (q5.set (rp.car st3.car) j) (by rw [List.length_set]; exact q4)
        exact ⟨_, xs, n, j, rfl, dat_int vo2, q3, by rw [q5.length]; exact g4, k3 _ _ _ S4 st4.s⟩
    · exact k3.elim
  · exact k1.elim
theorem qs_aug {i : Nat} {x : Str} {e : Expr} {op : Operator} {f : Int → Int → Int} {m : ME} {pos pos' : Pos} (hN : X.N.Nodup) (hi : X.N[i]? = some x) (hx : Loc X.env.scope x) (he : QE X W e m) (ho : PIp X op (ipI f)) (hf : X.fn x = true ∨ X.env.scope.names.lookup x = some .local := by first | exact .inl rfl | exact .inr rfl | assumption) :
    QS X W (.AugAssign (.Name x pos') op e pos) (sAug i f m) := by
  refine PS.of (ps_aug hN hi hx he ho hf) fun D σ H hq => ?_
  obtain ⟨Z, F, ρ, S, k⟩ := hq
  unfold sAug at k
  split at k
  · rename_i n g1
    obtain ⟨v, e1, ok⟩ := S.slot i _ g1
    refine ⟨v, e1, Z, F, ρ, S, PostS.bind0 k fun r ρ1 H1 F1 e1 S1 st1 k1 v2 vo nw => ?_⟩
    split at k1
    · rename_i y
      split at k1
      · exact k1.elim
      · rename_i hp
        exact ⟨n, y, dat_int ok, dat_int vo, k1 _ H1 F1 (S1.set (by simpa using hp) (.int _) fun _ z => nomatch z) (step_set st1.s S.al fun _ z => nomatch z)⟩
    · exact k1.elim
  · exact k.elim
/-! several targets -/
theorem PostS.bindAt {α : Type} {D : Ends} {G : α → Env → Forb → Hp → Prop} {o : Out α} {f : α → Env → SO} (p : PostS X W Z σ F ρ H D (o.bindS f)) (s : StepS σ σ F F1 ρ ρ1 H H1)
    (h : ∀ a ρ2 H2 F2, o = .ok a ρ2 → SR X.K Z F2 ρ2 σ H2 → Step σ F1 F2 ρ1 ρ2 H1 H2 → PostS X W Z σ F ρ H D (f a ρ2) → G a ρ2 F2 H2) : Post X W Z σ F1 ρ1 H1 G o := by
  cases o with
  | ok a ρ2 => exact fun H2 F2 S st => h a ρ2 H2 F2 rfl S st p
  | exc e ρ' => exact fun cls d H' F' S st eo => p cls d σ H' F' S (s.trans st.s) eo
  | no => exact p
omit [Tab] [Zok] in
def Bare : RV → Prop
  | .bor _ => False
  | .thg _ => False
  | _ => True
theorem put1_ok {o : Bool} {i : Nat} {r : RV} {v : V} {ρ' : Env} (S : SR K Z F ρ σ H) (vo : VOk K Z F ρ σ H v r) (e : put1 o i r ρ = some ρ') : ∃ F', SR K Z F' ρ' (σ.set i (some v)) H ∧ (∀ a, F' a → F a) ∧ (∀ a, F a → F' a ∨ ∃ d, r = .own d ∧ v = .ref a) ∧
    (∀ j a, OwnAt ρ' (σ.set i (some v)) j a → OwnAt ρ σ j a ∨ ∃ d, r = .own d ∧ v = .ref a) ∧
    (∀ w r', Bare r' → VOk K Z F ρ σ H w r' → (∀ a d d', r = .own d → v = .ref a → r' = .own d' → w ≠ .ref a) → VOk K Z F' ρ' (σ.set i (some v)) H w r') := by
  unfold put1 at e
  split at e
  · cases e
  · rename_i hp
    have hp' : parAt ρ i = false := by simpa using hp
    have dat : ∀ d, (r = .dat d ∨ r = .own d) → ρ' = ρ.set i (some (.dat d)) → ∃ F', SR K Z F' ρ' (σ.set i (some v)) H ∧ (∀ a, F' a → F a) ∧ (∀ a, F a → F' a ∨ ∃ d, r = .own d ∧ v = .ref a) ∧
        (∀ j a, OwnAt ρ' (σ.set i (some v)) j a → OwnAt ρ σ j a ∨ ∃ d, r = .own d ∧ v = .ref a) ∧
        (∀ w r', Bare r' → VOk K Z F ρ σ H w r' → (∀ a d d', r = .own d → v = .ref a → r' = .own d' → w ≠ .ref a) → VOk K Z F' ρ' (σ.set i (some v)) H w r') := by
      intro d hr er
      subst er
      -- what is new is let go
      have hd : ∃ F', SR K Z F' ρ σ H ∧ Rep K F' H v d ∧ (∀ a, F' a → F a) ∧ (∀ a, F a → F' a ∨ ∃ d, r = .own d ∧ v = .ref a) := by
        rcases hr with rfl | rfl
        · exact ⟨F, S, vo, fun _ f => f, fun _ f => .inl f⟩
        · obtain ⟨a, rfl, f, o, m, n⟩ := vo
          refine ⟨fun b => F b ∧ ¬ b = a, S.drop (fun b eb => by rw [eb]; exact m) (fun b eb j => by rw [eb]; exact n j), ?_, fun b f => f.1, fun b fb => ?_⟩
          · cases d with
            | list ds =>
              obtain ⟨xs, q1, q2, q3⟩ := o
              exact .lst (fun z => z.2 rfl) q1 q2 (q3.car (Car.sub fun b f => f.1))
            | _ => exact o.elim
          · by_cases eb : b = a
            · subst eb; exact .inr ⟨_, rfl, rfl⟩
            · exact .inl ⟨fb, eb⟩
      obtain ⟨F', S2, rp, l1, l2⟩ := hd
      refine ⟨F', S2.set (sv := .dat d) hp' rp (fun _ z => nomatch z), l1, l2, fun j a o => ?_, fun w r' hb vo' ap => ?_⟩
      · rcases o.of_set with ⟨_, m, _⟩ | ⟨_, o⟩
        · cases m
        · exact .inl o
      · cases r' with
        | bor _ => exact hb.elim
        | thg _ => exact hb.elim
        | dat d' => exact Rep.car (Car.sub l1) vo'
        | own d' =>
          obtain ⟨a, rfl, f, o, m, n⟩ := vo'
          have fa : F' a := by
            rcases l2 a f with z | ⟨d2, z1, z2⟩
            · exact z
            · exact absurd rfl (ap a d2 d' z1 z2 rfl)
          refine ⟨a, rfl, fa, o.car (Car.sub l1) rfl, m, fun j oj => ?_⟩
          rcases oj.of_set with ⟨_, m, _⟩ | ⟨_, oj⟩
          · cases m
          · exact n j oj
    split at e
    · rename_i d
      cases e
      obtain ⟨a, rfl, f, o, m, n⟩ := vo
      refine ⟨F, S.set hp' ⟨a, rfl, f, o⟩ fun b _ eb => by cases eb; exact ⟨m, fun j _ => n j⟩, fun _ f => f, fun _ f => .inl f, fun j b ob => ?_, fun w r' hb vo' ap => ?_⟩
      · rcases ob.of_set with ⟨_, _, e⟩ | ⟨_, ob⟩
        · exact .inr ⟨d, rfl, e⟩
        · exact .inl ob
      · cases r' with
        | bor _ => exact hb.elim
        | thg _ => exact hb.elim
        | dat d' => exact vo'
        | own d' =>
          obtain ⟨b, rfl, fb, ob, mb, nb⟩ := vo'
          refine ⟨b, rfl, fb, ob, mb, fun j oj => ?_⟩
          rcases oj.of_set with ⟨_, _, e⟩ | ⟨_, oj⟩
          · exact absurd e.symm (ap a d d' rfl rfl rfl)
          · exact nb j oj
    · rename_i d; cases e; exact dat d (.inl rfl) rfl
    · rename_i d; cases e; exact dat d (.inr rfl) rfl
    · cases e
theorem stepS_puts {σ' : St} {ρ' : Env} {F' : Forb} (st : Step σ F F1 ρ ρ1 H H1) (al : ∀ a, F a → H a ≠ none) (l1 : ∀ a, F' a → F1 a) (l2 : ∀ a, F1 a → F' a ∨ H a = none) (l3 : ∀ j a, OwnAt ρ' σ' j a → OwnAt ρ1 σ j a ∨ H a = none) : StepS σ σ' F F' ρ ρ' H H1 where
  car := ⟨st.car.rd, fun a f => st.car.fr a (l1 a f), st.car.tb⟩
  tm := fun a f n => by
    obtain ⟨e, f1, n1⟩ := st.s.tm a f n
    refine ⟨e, (l2 a f1).resolve_right (al a f), fun j o => ?_⟩
    rcases l3 j a o with z | z
    · exact n1 j z
    · exact al a f z
  dom := st.dom
theorem New.at {v : V} {r : RV} {a : Addr} {d : D} (n : New H v r) (er : r = .own d) (ev : v = .ref a) : H a = none := by
  subst er; exact n a ev
theorem own_there {v : V} {r : RV} {a : Addr} {d : D} (S : SR K Z F ρ σ H) (vo : VOk K Z F ρ σ H v r) (er : r = .own d) (ev : v = .ref a) : H a ≠ none := by
  subst er
  obtain ⟨b, eb, f, _⟩ := vo
  rw [ev] at eb; cases eb
  exact S.al _ f
theorem New.later {v : V} {r : RV} (n : New H1 v r) (d : ∀ a, H a ≠ none → H1 a ≠ none) : New H v r := n.back d
theorem qs_par {i j : Nat} {oi oj : Bool} {x y : Str} {a b : Expr} {ma mb : ME} {px py pt pos : Pos} {kt k2 pt2} (hc : X.calm = true) (hN : X.N.Nodup) (hi : X.N[i]? = some x) (hj : X.N[j]? = some y) (hij : i ≠ j)
    (hx : X.env.scope.names.lookup x = some .local) (hy : X.env.scope.names.lookup y = some .local) (ha : QE X W a ma) (hb : QE X W b mb)
    (hw : swappedStores [.Tuple [.Name x px, .Name y py] kt pt] (.Tuple [a, b] k2 pt2) X.env = pure (some [x, y]))
    (hs : swapsWithSole [.Tuple [.Name x px, .Name y py] kt pt] (.Tuple [a, b] k2 pt2) pos.line X.env = pure false := by rfl)
    (sa : starEach [a, b] X.env = (false, eval a X.env) :: starEach [b] X.env := by rfl) (sb : starEach [b] X.env = (false, eval b X.env) :: starEach [] X.env := by rfl) :
    QS X W (.Assign [.Tuple [.Name x px, .Name y py] kt pt] (.Tuple [a, b] k2 pt2) pos) (sPar (i, oi) (j, oj) ma mb) := by
  refine PS.of (ps_par hc hN hi hj hij hx hy (pa_cons ha (pa_cons hb pa_nil sb) sa) hw hs) fun D σ H hq => ?_
  obtain ⟨Z, F, ρ, S, k⟩ := hq
  refine ⟨Z, F, ρ, S, PostS.bind0 k fun r ρ1 H1 F1 e1 S1 st1 k1 v1 vo1 nw1 => ⟨Z, F1, ρ1, S1, PostS.bindAt k1 st1.s fun t ρ2 H2 F2 e2 S2 st2 k2 v2 vo2 nw2 => ?_⟩⟩
  refine ⟨_, _, rfl, ?_⟩
  have vo1' := vo1.step st2
  have n2 := nw2.back st1.dom
  dsimp only at k2
  cases g1 : put1 oi i r ρ2 with
  | none => rw [g1] at k2; exact k2.elim
  | some ρ3 =>
    rw [g1] at k2
    have hb2 : Bare t := by
      cases t with
      | bor _ => exact k2.elim
      | thg _ => exact k2.elim
      | _ => trivial
    cases g2 : put1 oj j t ρ3 with
    | none => cases t <;> first | exact k2.elim | (simp only [g2] at k2; exact k2.elim)
    | some ρ4 =>
      have k3 : PostS X W Z σ F ρ H D (.next ρ4) := by
        cases t with
        | bor _ => exact k2.elim
        | thg _ => exact k2.elim
        | dat _ => simp only [g2] at k2; exact k2
        | own _ => simp only [g2] at k2; exact k2
      obtain ⟨F3, S3, m1, m2, m3, m4⟩ := put1_ok S2 vo1' g1
      have vo2' := m4 v2 t hb2 vo2 fun c d d' er ev et ew => own_there S1 vo1 er ev (nw2.at et ew)
      obtain ⟨F4, S4, p1, p2, p3, _⟩ := put1_ok S3 vo2' g2
      refine k3 _ H2 F4 S4 (stepS_puts (st1.trans st2) S.al (fun c f => m1 c (p1 c f)) (fun c f => ?_) fun q c o => ?_)
      · rcases m2 c f with z | ⟨d, z1, z2⟩
        · rcases p2 c z with z | ⟨d, z1, z2⟩
          · exact .inl z
          · exact .inr (n2.at z1 z2)
        · exact .inr (nw1.at z1 z2)
      · rcases p3 q c o with z | ⟨d, z1, z2⟩
        · rcases m3 q c z with z | ⟨d, z1, z2⟩
          · exact .inl z
          · exact .inr (nw1.at z1 z2)
        · exact .inr (n2.at z1 z2)
theorem qs_par3 {i j l : Nat} {oi oj ol : Bool} {x y z : Str} {a b c : Expr} {ma mb mc : ME} {px py pz pt pos : Pos} {kt k2 pt2} (hc : X.calm = true) (hN : X.N.Nodup) (hi : X.N[i]? = some x) (hj : X.N[j]? = some y) (hl : X.N[l]? = some z) (hij : i ≠ j) (hil : i ≠ l) (hjl : j ≠ l)
    (hx : X.env.scope.names.lookup x = some .local) (hy : X.env.scope.names.lookup y = some .local) (hz : X.env.scope.names.lookup z = some .local) (ha : QE X W a ma) (hb : QE X W b mb) (hcc : QE X W c mc)
    (hw : swappedStores [.Tuple [.Name x px, .Name y py, .Name z pz] kt pt] (.Tuple [a, b, c] k2 pt2) X.env = pure (some [x, y, z]))
    (hs : swapsWithSole [.Tuple [.Name x px, .Name y py, .Name z pz] kt pt] (.Tuple [a, b, c] k2 pt2) pos.line X.env = pure false := by rfl)
    (sa : starEach [a, b, c] X.env = (false, eval a X.env) :: starEach [b, c] X.env := by rfl) (sb : starEach [b, c] X.env = (false, eval b X.env) :: starEach [c] X.env := by rfl) (sc : starEach [c] X.env = (false, eval c X.env) :: starEach [] X.env := by rfl) :
    QS X W (.Assign [.Tuple [.Name x px, .Name y py, .Name z pz] kt pt] (.Tuple [a, b, c] k2 pt2) pos) (sPar3 (i, oi) (j, oj) (l, ol) ma mb mc) := by
  refine PS.of (ps_par3 hc hN hi hj hl hij hil hjl hx hy hz (pa_cons ha (pa_cons hb (pa_cons hcc pa_nil sc) sb) sa) hw hs) fun D σ H hq => ?_
  obtain ⟨Z, F, ρ, S, k⟩ := hq
  refine ⟨Z, F, ρ, S, PostS.bind0 k fun r ρ1 H1 F1 e1 S1 st1 k1 v1 vo1 nw1 => ⟨Z, F1, ρ1, S1, PostS.bindAt k1 st1.s fun t ρ2 H2 F2 e2 S2 st2 k2 v2 vo2 nw2 => ⟨Z, F2, ρ2, S2, PostS.bindAt k2 (st1.trans st2).s fun u ρ3 H3 F3 e3 S3 st3 k3 v3 vo3 nw3 => ?_⟩⟩⟩
  refine ⟨_, _, _, rfl, ?_⟩
  have vo1' := (vo1.step st2).step st3
  have vo2' := vo2.step st3
  have n2 := nw2.back st1.dom
  have n3 := nw3.back (st1.trans st2).dom
  dsimp only at k3
  cases g1 : put1 oi i r ρ3 with
  | none => rw [g1] at k3; exact k3.elim
  | some ρ4 =>
    rw [g1] at k3
    have hb2 : Bare t ∧ Bare u := by
      cases t with
      | bor _ => exact k3.elim
      | thg _ => exact k3.elim
      | dat _ => cases u with
        | bor _ => exact k3.elim
        | thg _ => exact k3.elim
        | _ => exact ⟨trivial, trivial⟩
      | own _ => cases u with
        | bor _ => exact k3.elim
        | thg _ => exact k3.elim
        | _ => exact ⟨trivial, trivial⟩
    have k4 : ∃ ρ5 ρ6, put1 oj j t ρ4 = some ρ5 ∧ put1 ol l u ρ5 = some ρ6 ∧ PostS X W Z σ F ρ H D (.next ρ6) := by
      have go : PostS X W Z σ F ρ H D (match put1 oj j t ρ4 with
        | some ρ5 => match put1 ol l u ρ5 with
          | some ρ6 => .next ρ6
          | none => .no
        | none => .no) := by
        cases t with
        | bor _ => exact k3.elim
        | thg _ => exact k3.elim
        | dat _ => cases u with
          | bor _ => exact k3.elim
          | thg _ => exact k3.elim
          | _ => exact k3
        | own _ => cases u with
          | bor _ => exact k3.elim
          | thg _ => exact k3.elim
          | _ => exact k3
      cases g2 : put1 oj j t ρ4 with
      | none => rw [g2] at go; exact go.elim
      | some ρ5 =>
        rw [g2] at go
        dsimp only at go
        cases g3 : put1 ol l u ρ5 with
        | none => rw [g3] at go; exact go.elim
        | some ρ6 =>
          rw [g3] at go
          exact ⟨ρ5, ρ6, rfl, g3, go⟩
    obtain ⟨ρ5, ρ6, g2, g3, k5⟩ := k4
    obtain ⟨F4, S4, m1, m2, m3, m4⟩ := put1_ok S3 vo1' g1
    have h12 : ∀ a d d', r = .own d → v1 = .ref a → t = .own d' → v2 ≠ .ref a := fun c d d' er ev et ew => own_there S1 vo1 er ev (nw2.at et ew)
    have h13 : ∀ a d d', r = .own d → v1 = .ref a → u = .own d' → v3 ≠ .ref a := fun c d d' er ev et ew => st2.dom _ (own_there S1 vo1 er ev) (nw3.at et ew)
    have h23 : ∀ a d d', t = .own d → v2 = .ref a → u = .own d' → v3 ≠ .ref a := fun c d d' er ev et ew => own_there S2 vo2 er ev (nw3.at et ew)
    have w2 := m4 v2 t hb2.1 vo2' h12
    have w3 := m4 v3 u hb2.2 vo3 h13
    obtain ⟨F5, S5, p1, p2, p3, p4⟩ := put1_ok S4 w2 g2
    have w3' := p4 v3 u hb2.2 w3 h23
    obtain ⟨F6, S6, q1, q2, q3, _⟩ := put1_ok S5 w3' g3
    refine k5 _ H3 F6 S6 (stepS_puts ((st1.trans st2).trans st3) S.al (fun c f => m1 c (p1 c (q1 c f))) (fun c f => ?_) fun q c o => ?_)
    · rcases m2 c f with z | ⟨d, z1, z2⟩
      · rcases p2 c z with z | ⟨d, z1, z2⟩
        · rcases q2 c z with z | ⟨d, z1, z2⟩
          · exact .inl z
          · exact .inr (n3.at z1 z2)
        · exact .inr (n2.at z1 z2)
      · exact .inr (nw1.at z1 z2)
    · rcases q3 q c o with z | ⟨d, z1, z2⟩
      · rcases p3 q c z with z | ⟨d, z1, z2⟩
        · rcases m3 q c z with z | ⟨d, z1, z2⟩
          · exact .inl z
          · exact .inr (nw1.at z1 z2)
        · exact .inr (n2.at z1 z2)
      · exact .inr (n3.at z1 z2)
end
/-! ### a < b < c -/
def mChain (f g : D → D → Option RV) (a b c : ME) : ME := fun ρ => (a ρ).bind fun x ρ1 => (b ρ1).bind fun y ρ2 => match x.get ρ2, y.get ρ2 with
  | some d, some e => match f d e with
    | some (.dat (.bool true)) => (c ρ2).bind fun z ρ3 => match y.get ρ3, z.get ρ3 with
      | some e', some h => match g e' h with
        | some r => .ok r ρ3
        | none => .no
      | _, _ => .no
    | some (.dat (.bool false)) => .ok (.dat (.bool false)) ρ2
    | _ => .no
  | _, _ => .no
section
variable [Tab] [Zok] {X : Cx} {W : WX} {K : PySem.W.Frag} {Z : Zone} {σ σ1 : St} {F F1 : Forb} {ρ ρ1 : Env} {H H0 H1 : Hp}
theorem chain_gives {r r' : R2} {f g : D → D → Option RV} {ma mb mc : ME} (h2 : Serves2 X r f) (h2' : Serves2 X r' g) {σ : St} {H : Hp} {Q : VK} (hq : RE X W (mChain f g ma mb mc) σ H Q) : tChain r r' (RE X W ma) (RE X W mb) (RE X W mc) σ H Q := by
  obtain ⟨Z, F, ρ, S, k⟩ := hq
  refine ⟨Z, F, ρ, S, Post.bind k fun x ρ1 H1 F1 e1 S1 st1 k1 v1 vo1 nw1 => ⟨Z, F1, ρ1, S1, Post.bind k1 fun y ρ2 H2 F2 e2 S2 st2 k2 v2 vo2 nw2 => ?_⟩⟩
  have vo1' := vo1.step st2
  cases g1 : x.get ρ2 with
  | none => rw [g1] at k2; exact k2.elim
  | some d =>
    cases g2 : y.get ρ2 with
    | none => rw [g1, g2] at k2; exact k2.elim
    | some e =>
      rw [g1, g2] at k2
      dsimp only at k2
      cases g3 : f d e with
      | none => rw [g3] at k2; exact k2.elim
      | some rv =>
        rw [g3] at k2
        have bo : ∃ b, rv = .dat (.bool b) := by
          split at k2
          · rename_i q; cases q; exact ⟨_, rfl⟩
          · rename_i q; cases q; exact ⟨_, rfl⟩
          · exact k2.elim
        obtain ⟨b, rfl⟩ := bo
        refine h2 W Z F2 ρ2 σ H2 H2 v1 v2 d e _ _ S2 (fun a z => z) (vo1'.top S2 g1) (vo2.top S2 g2) g3 ?_
        intro H3 F3 S3 st3 v3 vo3 _
        have hv : v3 = .bl b := dat_bool (K := X.K) (F := F3) (H := H3) vo3
        refine ⟨b, hv, ?_⟩
        have k3 := Post.later k2 st3
        cases b with
        | false =>
          refine iteF ?_
          exact k3 H3 F3 S3 .refl (.bl false) (.bl false) trivial
        | true =>
          refine iteT ?_
          refine ⟨Z, F3, ρ2, S3, Post.bind k3 fun z ρ4 H4 F4 e4 S4 st4 k4 v4 vo4 nw4 => ?_⟩
          have vo2' := (vo2.step st3).step st4
          cases g4 : y.get ρ4 with
          | none => rw [g4] at k4; exact k4.elim
          | some e' =>
            cases g5 : z.get ρ4 with
            | none => rw [g4, g5] at k4; exact k4.elim
            | some h =>
              rw [g4, g5] at k4
              dsimp only at k4
              cases g6 : g e' h with
              | none => rw [g6] at k4; exact k4.elim
              | some rv' =>
                rw [g6] at k4
                exact h2' W Z F4 ρ4 σ H4 H v2 v4 e' h rv' Q S4 (fun a z => st4.dom a (st3.dom a (st2.dom a (st1.dom a z)))) (vo2'.top S4 g4) (vo4.top S4 g5) g6 k4
theorem q_chain {op op' : CmpOp} {f g : D → D → Option RV} {a b c : Expr} {ma mb mc : ME} {pos : Pos} (c1 : CmpS X op f) (c2 : CmpS X op' g) (ha : QE X W a ma) (hb : QE X W b mb) (hc : QE X W c mc)
    (hm : lastMarks [op, op'] [b, c] = false := by with_unfolding_all rfl) : QE X W (.Compare a [op, op'] [b, c] pos) (mChain f g ma mb mc) := by
  obtain ⟨r, h1, h2⟩ := c1.ex
  obtain ⟨r', h1', h2'⟩ := c2.ex
  exact PE.of (pe_chain h1 h1' ha hb hc hm) fun σ H Q hq => chain_gives h2 h2' hq
theorem rt_bT {m : ME} (hm : ∀ ρ r ρ', m ρ = .ok r ρ' → ∃ k, r = .dat (.bool k)) {σ : St} {H : Hp} {Q : Bool → Hp → Prop} (hq : RT X W (bT m) σ H Q) : RE X W m σ H (fun x H' => ∃ k, x = .bl k ∧ Q k H') := by
  obtain ⟨Z, F, ρ, S, k⟩ := hq
  refine ⟨Z, F, ρ, S, Post.bind k fun x ρ1 H1 F1 e1 S1 st1 k1 v vo nw => ?_⟩
  obtain ⟨b, rfl⟩ := hm _ _ _ e1
  exact ⟨b, dat_bool (K := X.K) (F := F1) (H := H1) vo, k1 H1 F1 S1 .refl⟩
theorem chain_bool {f g : D → D → Option RV} {ma mb mc : ME} (hg : ∀ d e rv, g d e = some rv → ∃ k, rv = .dat (.bool k)) : ∀ ρ r ρ', mChain f g ma mb mc ρ = .ok r ρ' → ∃ k, r = .dat (.bool k) := by
  intro ρ r ρ' h
  unfold mChain at h
  cases ha : ma ρ with
  | ok x ρ1 =>
    rw [ha] at h
    dsimp only [Out.bind] at h
    cases hb : mb ρ1 with
    | ok y ρ2 =>
      rw [hb] at h
      dsimp only at h
      split at h
      · split at h
        · cases hc : mc ρ2 with
          | ok z ρ3 =>
            rw [hc] at h
            dsimp only at h
            split at h
            · split at h
              · rename_i q; cases h; exact hg _ _ _ q
              · cases h
            · cases h
          | exc e ρ4 => rw [hc] at h; cases h
          | no => rw [hc] at h; cases h
        · cases h; exact ⟨_, rfl⟩
        · cases h
      · cases h
    | exc e ρ4 => rw [hb] at h; cases h
    | no => rw [hb] at h; cases h
  | exc e ρ4 => rw [ha] at h; cases h
  | no => rw [ha] at h; cases h
theorem qt_chain {op op' : CmpOp} {f g : D → D → Option RV} {a b c : Expr} {ma mb mc : ME} {pos : Pos} (c1 : CmpS X op f) (c2 : CmpS X op' g) (ha : QE X W a ma) (hb : QE X W b mb) (hc : QE X W c mc)
    (hg : ∀ d e rv, g d e = some rv → ∃ k, rv = .dat (.bool k)) (hm : lastMarks [op, op'] [b, c] = false := by with_unfolding_all rfl) : QT X W (.Compare a [op, op'] [b, c] pos) (bT (mChain f g ma mb mc)) := by
  obtain ⟨r, h1, h2⟩ := c1.ex
  obtain ⟨r', h1', h2'⟩ := c2.ex
  exact PT.of (pt_chain h1 h1' ha hb hc hm) fun σ H Q hq => chain_gives h2 h2' (rt_bT (chain_bool hg) hq)
end
end PD

namespace PD
open PySem PySem.Spec PyProof.Rows L2
/-! ### a lambda handed to a def that calls it -/
/-- what the lambda's call comes to -/
inductive TR where
  | dat (d : D) | own (d : D) | exc (e : Exc) | no
def mAct : TR → ME
  | .dat d => fun ρ => .ok (.dat d) ρ
  | .own d => fun ρ => .ok (.own d) ρ
  | .exc e => fun ρ => .exc e ρ
  | .no => fun _ => .no
/-- what a lambda may read: data -/
def SV.still : SV → Bool
  | .dat _ => true
  | .opq (.fnv _) => true
  | _ => false
def datE (ρ : Env) : Env := ρ.map fun | some (.dat d) => some (.dat d) | some (.opq (.fnv x)) => some (.opq (.fnv x)) | _ => none
def trOf (m : ME) (ρ : Env) : TR := match m (datE ρ) with
  | .ok (.dat d) _ => .dat d
  | .ok (.own d) _ => .own d
  | .ok (.bor _) _ => .no
  | .ok (.thg _) _ => .no
  | .exc e _ => .exc e
  | .no => .no
def mTold (n : Nat) (m : ME) (mb : TR → MS) : ME := fun ρ => match fn n (mb (trOf m ρ)) [.opq .unk] with
  | .ok (.dat d) _ => .ok (.dat d) ρ
  | .ok (.own d) _ => .ok (.own d) ρ
  | .ok (.opq o) _ => .ok (.thg o) ρ
  | _ => .no
theorem datE_get {ρ : Env} {i : Nat} {sv : SV} (h : (datE ρ)[i]? = some (some sv)) : sv.still = true ∧ ρ[i]? = some (some sv) := by
  unfold datE at h
  rw [List.getElem?_map] at h
  cases q : ρ[i]? with
  | none => rw [q] at h; cases h
  | some x =>
    rw [q] at h
    cases x with
    | none => simp at h
    | some s =>
      cases s with
      | dat d => simp at h; subst h; exact ⟨rfl, rfl⟩
      | opq o =>
        cases o with
        | fnv x => simp at h; subst h; exact ⟨rfl, rfl⟩
        | _ => simp at h
      | _ => simp at h
/-- the told def's context -/
abbrev tCx (P : Program) (w : World) (K : PySem.W.Frag) (mg : Str → Option Value) (base : Heap) (Ng : List Str) (x : Str) (st : Stmt) (g : Addr) (cdg : Value) (A : Around) (outer : List PySem.Env) (s : Shared) (H : Hp) : Cx :=
  cxOf C8.CX0 P w K mg base Ng x (defScope st) g cdg A outer s H C8.E0
/-- a def whose argument a is called within; tr: what the call comes to -/
def ToldOk [Tab] (P : Program) (w : World) (K : PySem.W.Frag) (mg : Str → Option Value) (base : Heap) (k : Nat) (Ng : List Str) (x : Str) (st : Stmt) (g : Addr) (a : Str) (mb : TR → MS) : Prop :=
  ∀ (zk : Zok) (cdg : Value) (A : Around) (outer : List PySem.Env) (s : Shared) (H : Hp) (tr : TR), Room k (A.deeper (envOfC x (defScope st) s.heap.objs.size g cdg)) →
    (∀ (pn : List (Addr × Obj)) (xe : Value → Shared → Prop) (W' : WX) (p1 p2 : Pos), Takes ((tCx P w K mg base Ng x st g cdg A outer s H).tr pn xe) W' → QE ((tCx P w K mg base Ng x st g cdg A outer s H).tr pn xe) W' (.Call (.Name a p1) [] [] p2) (mAct tr)) →
    QB (tCx P w K mg base Ng x st g cdg A outer s H).nox W0 (defBody st) (mb tr)
section
variable [Tab] [Zok] {X : Cx} {W : WX} {Z : Zone} {F : Forb} {ρ : Env} {σ : St} {H : Hp} {pins : List (Addr × Obj)} {s : Shared}
/-- x(), in the def that got the lambda; what it lets out is told of the slots as they stand -/
theorem act_at {Ng : List Str} {x : Str} {st : Stmt} {g f c' : Addr} {cdg pm ctv : Value} {params : Arguments} {body : Expr} {scope : Scope} {k i : Nat} {a : Str} {pn : List (Addr × Obj)} {xe : Value → Shared → Prop} {W' : WX} {t : XK → TE} {p1 p2 : Pos}
    (I : Inv X pins σ H s) (L : LamX.LamS X.env.scope scope) (hf : s.heap.get? f = some (PySem.W.kla_obj "<lambda>" (X.env.qual ++ "<lambda>") params body scope (cloFrom X.env.cells scope.names []) pm c' ctv)) (hfn : H f = none) (hfr : f ∉ frs X.stack)
    (hbind : bindArgs (PySem.W.kla_fn "<lambda>" (X.env.qual ++ "<lambda>") params body scope (cloFrom X.env.cells scope.names []) pm (.ref c') ctv) ⟨[], []⟩ = pure [])
    (tk : Takes ((tCx X.prog X.w X.K X.mg X.base Ng x st g cdg X.A X.stack s H).tr pn xe) W') (hr : Room (k + 1) (X.A.deeper (envOfC x (defScope st) s.heap.objs.size g cdg)))
    (hbody : ∀ (A : Around) (outer : List PySem.Env) (s : Shared) (H : Hp) (E : XK), Room k (A.deeper (LamX.lamEnv X scope s.heap.objs.size f c')) → Takes (LamX.lamCx X A outer s H E scope f c') (fun cls d _ H => E cls d H) → PE (LamX.lamCx X A outer s H E scope f c') body (t E))
    (hN : Ng[i]? = some a) (hv : Vis (defScope st) a) (hd : (a == ("__debug__" : Str)) = false) (hcd : (a == ("__classdict__" : Str)) = false) :
    PE ((tCx X.prog X.w X.K X.mg X.base Ng x st g cdg X.A X.stack s H).tr pn xe) (.Call (.Name a p1) [] [] p2)
      (fun σZ HZ Q => σZ[i]? = some (some (.ref f)) ∧ HZ c' = some (LamX.CodeO c' (X.env.qual ++ "<lambda>")) ∧ t (fun cls d H' => W' cls d σZ H') σ HZ Q) := by
  refine ⟨fun pZ sZ σZ HZ Q IZ ⟨hs, hc, ht⟩ => ?_⟩
  have name := (pe_var (X := (tCx X.prog X.w X.K X.mg X.base Ng x st g cdg X.A X.stack s H).tr pn xe) (pos := p1) (i := i) hN hv hd hcd).run pZ sZ σZ HZ (fun v H1 => v = .ref f ∧ H1 = HZ) IZ ⟨_, hs, rfl, rfl⟩
  refine wpAny_Call_Name_kw (thn name fun u s1 ⟨v, H1, I1, r1, e1, e2⟩ => ?_)
  subst e1
  rw [e2] at I1
  obtain rfl : u = Value.ref f := r1
  have un : Un (frs X.stack) [] H HZ s.heap s1.heap := I1.base
  have of1 := un.keep f _ hf hfn hfr (fun z => nomatch (show f ∈ ([] : List Addr) from z))
  refine PySem.W.callWith_F0 ⟨_, _, _, _, of1⟩ ?_
  obtain ⟨⟨oc, vs, tt, q1, q2, q3⟩, _, _⟩ := I1.hok c' _ hc
  have run : codeAny (model X.prog X.w) (X.A.deeper (envOfC x (defScope st) s.heap.objs.size g cdg)) (.call (.ref f) ⟨[], []⟩)
      (CR (L2.CX X.prog X.w) (envOfC x (defScope st) s.heap.objs.size g cdg :: X.stack) X.prog X.w HZ s1 Q (fun cls d H' => W' cls d σZ H')) s1 := by
    refine PySem.W.kla_callFunE hr.depth of1 rfl L.co L.gen rfl ⟨c', oc, vs, tt, rfl, q1, q2, q3⟩ ?_
    rw [hbind]
    refine wpAny_pure (wpAny_newFunctionEnv (fun y hy => (L.own y hy).2) (fun y hy => absurd hy (by simp)) (fun h₁ hns hsb => ⟨I1.nolimit.fresh _ hsb, ?_⟩) L.kind)
    have J : Inv (LamX.lamCx X (X.A.deeper (envOfC x (defScope st) s.heap.objs.size g cdg)) (envOfC x (defScope st) s.heap.objs.size g cdg :: X.stack) s1 HZ (fun cls d H' => W' cls d σZ H') scope f c') [] σ HZ { s1 with heap := h₁, toks := s1.toks + ([] : List (Str × Value)).length } :=
      LamX.lam_start2 I L I1.env0 hr.hd un hns fun b o e => hsb.extBut b o (Nat.ne_of_lt (Heap.lt_size e)) (Heap.get?_push_of_some _ e)
    refine PySem.W.kla_codeExpr (wpAny_mono ((hbody _ _ s1 HZ _ (hr.deeper _) (takes_of rfl rfl rfl rfl)).run [] _ _ HZ Q J ht) (fun v s' ⟨w', H', J', rv, q⟩ => ?_) fun e s' hq => hq)
    exact ⟨w', H', J'.os, J'.bare, J'.base, J'.hok, rv, q⟩
  refine wpAny_call (codeAny_mono run fun r s' hq => ?_)
  cases r with
  | error e => exact passAt tk σZ pZ HZ s1 e s' I1 hq
  | ok fl =>
    cases fl with
    | ret u => exact I1.after hq
    | next => exact False.elim hq
    | brk => exact False.elim hq
    | cont => exact False.elim hq

/-- the lambda is made: nothing that was tracked is lost, tables alone change -/
theorem lam_at {T : List (Addr × Str)} {c P : Addr} {params : Arguments} {body : Expr} {scope : Scope} {lpos : Pos} {E : Value → Shared → Prop} {Q : Value → Shared → Prop} (I : Inv X pins σ H s) (TB : LamX.TabB X.base X.mg c P) (hcode : X.env.code = .ref c)
    (hm : (P, X.env.qual ++ "<lambda>") ∈ T) (hu : ∀ p ∈ T, p.1 = P → p.2 = X.env.qual ++ "<lambda>") (hT : LamX.Tabs T H) (hdef : defaultsOf params X.env = ([], [])) (L : LamX.LamS X.env.scope scope)
    (h : ∀ (f c' : Addr) (pm ctv : Value) (H1 : Hp) (s' : Shared), Inv X pins σ H1 s' → LamX.ExtN H H1 → LamX.Tabs T H1 → (∀ b, H b ≠ none → H1 b ≠ none) →
      s'.heap.get? f = some (PySem.W.kla_obj "<lambda>" (X.env.qual ++ "<lambda>") params body scope (cloFrom X.env.cells scope.names []) pm c' ctv) → H1 f = none → f ∉ frs X.stack → H1 c' = some (LamX.CodeO c' (X.env.qual ++ "<lambda>")) → Q (.ref f) s') :
    wpAny (model X.prog X.w) X.A (eval (.Lambda params body scope lpos) X.env) Q E s := by
  obtain ⟨ps, hP, ht, ha⟩ := hT _ hm
  have hP' : s.heap.get? P = some { cls := .none, data := .fields ps } := I.hok P _ hP
  have bP := TB.bm.keeps I.bk
  have clo := closure_ok (L.has I.ok)
  have far : ∀ b, s.heap.objs.size ≤ b → b ∉ frs X.stack := fun b hb z => by
    cases List.mem_cons.mp (I.stkSub _ z) with
    | inl e => exact absurd (e ▸ I.lt) (Nat.not_lt.mpr hb)
    | inr e => exact I.nofs hb e
  refine PySem.W.kla_eval hdef ?_
  cases hc : codeAmong lpos ps.toList with
  | some cv =>
    obtain ⟨c', rfl, hco⟩ := ha lpos cv hc
    refine PySem.W.kla_makeFunctionHit (mg := X.mg) (c := c) (P := P) (ps := ps) clo I.ok.glob (I.mod.glob.keeps I.bk) hcode (TB.code.keeps I.bk) hP' ht hc bP fun ctv h' tk hx hsz => ?_
    exact h h'.objs.size c' _ ctv H _ (I.kept fun b o e => Heap.get?_push_of_some _ (hx b o e)) (.refl H) hT (fun _ z => z) (Heap.get?_push_size _ rfl) (I.hok.fresh hsz) (far _ hsz) hco
  | none =>
    refine PySem.W.kla_makeFunction (mg := X.mg) (c := c) (P := P) (ps := ps) clo I.ok.glob (I.mod.glob.keeps I.bk) hcode (TB.code.keeps I.bk) hP' ht hc TB.gP bP fun c' ctv h' tk hx hge hlt hrec htb => ?_
    obtain ⟨_, oc, vs, t, ec, hoc, hd, hv⟩ := hrec
    cases ec
    have hsz : s.heap.objs.size ≤ h'.objs.size := Nat.le_trans hge (Nat.le_of_lt hlt)
    have nC : H c' = none := I.hok.fresh hge
    let H1 : Hp := upd (upd H P (.tbl (ps ++ #[rawInt lpos.line, rawInt lpos.col, .ref c']))) c' (LamX.CodeO c' (X.env.qual ++ "<lambda>"))
    have at1 : ∀ b, b ≠ P → H b ≠ none → H1 b = H b := fun b n e => by
      cases q : H b with
      | none => exact absurd q e
      | some o => exact (upd_ne (ne_of_none q nC)).trans ((upd_ne n).trans q)
    have at2 : H1 P = some (.tbl (ps ++ #[rawInt lpos.line, rawInt lpos.col, .ref c'])) := (upd_ne (ne_of_none hP nC)).trans upd_same
    have ext : LamX.ExtN H H1 := fun b o e n => (at1 b (fun z => n ps (by rw [z, hP] at e; exact (Option.some.inj e).symm)) (nn e)).trans e
    have code : ∀ {b : Addr} {q : Str}, H b = some (LamX.CodeO b q) → H1 b = some (LamX.CodeO b q) := fun e => ext _ _ e LamX.codeO_ne
    have I1 := LamX.inv_table (t' := tk) (more := #[rawInt lpos.line, rawInt lpos.col, .ref c']) (h' := h'.push (PySem.W.kla_obj "<lambda>" (X.env.qual ++ "<lambda>") params body scope (cloFrom X.env.cells scope.names []) ((X.mg "__name__").getD .none) c' ctv)) I hP
      (fun b o hb e => Heap.get?_push_of_some _ (hx b o hb e)) (Heap.get?_push_of_some _ htb) hge ⟨oc, vs, t, Heap.get?_push_of_some _ hoc, hd, hv⟩
    have tabs : LamX.Tabs T H1 := fun p hp => by
      by_cases hb : p.1 = P
      · rw [hu p hp hb, hb]
        have eL : (ps ++ #[rawInt lpos.line, rawInt lpos.col, .ref c']).toList = ps.toList ++ [rawInt lpos.line, rawInt lpos.col, .ref c'] := by simp
        refine ⟨_, at2, by rw [eL]; exact PySem.TriplesOk_snoc _ _ _ _ ht, fun p' cv hcv => ?_⟩
        rw [eL] at hcv
        cases LamX.among_app _ ht hcv with
        | inl z => obtain ⟨c0, e1, e2⟩ := ha p' cv z; exact ⟨c0, e1, code e2⟩
        | inr z => exact ⟨c', z, upd_same⟩
      · obtain ⟨ps', a1, a2, a3⟩ := hT p hp
        refine ⟨ps', (at1 p.1 hb (nn a1)).trans a1, a2, fun p' cv hcv => ?_⟩
        obtain ⟨c0, e1, e2⟩ := a3 p' cv hcv
        exact ⟨c0, e1, code e2⟩
    refine h h'.objs.size c' _ ctv H1 _ I1 ext tabs (fun b e => ?_) (Heap.get?_push_size _ rfl) ?_ (far _ hsz) upd_same
    · by_cases hb : b = P
      · rw [hb, at2]; exact fun z => nomatch z
      · rw [at1 b hb e]; exact e
    · show upd (upd H P _) c' _ h'.objs.size = none
      rw [upd_ne (Nat.ne_of_gt hlt), upd_ne (Nat.ne_of_gt (Nat.lt_of_lt_of_le (Heap.lt_size hP') hsz))]
      exact I.hok.fresh hsz
end

/-- the very zone -/
@[reducible] def zAt (Z0 : Zone) : Zok := ⟨fun Z => Z = Z0⟩
/-- what the lambda's body is run in: nothing may be changed -/
def lamZone (H : Hp) (F : Forb) : Zone := ⟨H, F, F, [], []⟩
theorem sr_lam [Tab] {X : Cx} {F : Forb} {ρ : Env} {σ : St} {H : Hp} {F' : Forb} {H' : Hp} (hlen : ρ.length = σ.length) (hslot : ∀ (i : Nat) sv, ρ[i]? = some (some sv) → sv.still = true → ∃ v, σ[i]? = some (some v) ∧ SlotOk X.K F H v sv) (c : Car F F' H H') (al : ∀ a, F' a → H' a ≠ none) (tabs : LamX.Tabs Tab.T H') (fl : ∀ a o, F' a → H' a = some o → Mb o) : SR X.K (lamZone H' F') F' (datE ρ) σ H' where
  len := by
    unfold datE
    rw [List.length_map]
    exact hlen
  al := al
  m0 := fun _ f => f
  keepM := fun _ _ => rfl
  ext := fun _ _ _ _ e => e
  dom := fun _ h => h
  slot := fun i sv e => by
    obtain ⟨z, q⟩ := datE_get e
    obtain ⟨v, h1, h2⟩ := hslot i sv q z
    refine ⟨v, h1, ?_⟩
    cases sv with
    | dat d => exact Rep.car c h2
    | opq o => exact ObjR.car c h2
    | _ => cases z
  par := fun p hp => by cases hp
  apart := fun i j a ⟨sv, h1, h2, _⟩ _ => by
    obtain ⟨z, _⟩ := datE_get h1
    cases sv <;> first | (cases h2; done) | (cases z; done)
  notM := fun i a ⟨sv, h1, h2, _⟩ => by
    obtain ⟨z, _⟩ := datE_get h1
    cases sv <;> first | (cases h2; done) | (cases z; done)
  fz := fun _ f => .inl f
  tabs := tabs
  fl := fl
  zok := trivial
  opq := fun p hp => by cases hp
theorem datE_noown {ρ : Env} {σ : St} {i : Nat} {a : Addr} : ¬ OwnAt (datE ρ) σ i a := fun ⟨sv, h1, h2, _⟩ => by
  obtain ⟨z, _⟩ := datE_get h1
  cases sv <;> first | (cases h2; done) | (cases z; done)

theorem lam_end0 [Tab] {z : Zok} {K : PySem.W.Frag} {Z : Zone} {F2 : Forb} {ρ2 : Env} {σ : St} {H2 : Hp} (SL : @SR _ z K Z F2 ρ2 σ H2) : (∀ a, F2 a → H2 a ≠ none) ∧ ∀ a o, F2 a → H2 a = some o → Mb o := ⟨SL.al, SL.fl⟩
theorem not_mut {f b : Addr} {i : Nat} : ¬ MutAt [.ref f] [.opq .unk] i b := fun ⟨d, e, _⟩ => by
  cases i with
  | zero => simp at e
  | succ i => simp at e
/-- what the lambda's call asks, told of the def that calls it -/
theorem act_read [Tab] (zk : Zok) {X : Cx} {W' : WX} {F : Forb} {ρ : Env} {σ σZ : St} {H1 HZ : Hp} {f c' : Addr} {q : Str} {m : ME} {Q' : VK} (hz : ∀ Z, Zok.ok Z → Z = zone H1 F [.ref f] [.opq .unk]) (hlen : ρ.length = σ.length) (hslot : ∀ (i : Nat) sv, ρ[i]? = some (some sv) → sv.still = true → ∃ v, σ[i]? = some (some v) ∧ SlotOk X.K F H1 v sv)
    (hfl : ∀ a o, F a → H1 a = some o → Mb o) (hco : H1 c' = some (LamX.CodeO c' q)) (h : RE X W' (mAct (trOf m ρ)) σZ HZ Q') :
    σZ[0]? = some (some (.ref f)) ∧ HZ c' = some (LamX.CodeO c' q) ∧ @RE _ zTrue X (fun cls d _ H' => W' cls d σZ H') m σ HZ Q' := by
  obtain ⟨Z', F', ρ', S', k'⟩ := h
  have ez := hz Z' S'.zok
  subst ez
  have hO : (0, V.ref f) ∈ (zone H1 F [.ref f] [.opq .unk]).O := mem_opqs.mpr ⟨⟨.unk, rfl, rfl⟩, rfl⟩
  have c0 : ¬ F c' := fun z => hfl c' _ z hco
  have cF : Car F F' H1 HZ := ⟨S'.ext, S'.fz, fun _ => S'.tabs⟩
  refine ⟨(S'.opq _ hO).2, S'.ext c' _ c0 LamX.codeO_ne hco, lamZone HZ F', F', datE ρ, sr_lam hlen hslot cF S'.al S'.tabs S'.fl, ?_⟩
  have back : ∀ {F2 : Forb} {ρ2 : Env} {H2 : Hp}, (∀ a, F2 a → H2 a ≠ none) → (∀ a o, F2 a → H2 a = some o → Mb o) → Step σ F' F2 (datE ρ) ρ2 HZ H2 → SR X.K (zone H1 F [.ref f] [.opq .unk]) F2 ρ' σZ H2 ∧ Step σZ F' F2 ρ' ρ' HZ H2 := fun {F2 ρ2 H2} al fl stL => by
    have hF : ∀ b, F' b → F2 b := fun b fb => by
      rcases stL.kp b fb with z | ⟨i, z, _⟩
      · exact z
      · exact absurd z datE_noown
    have hE : ∀ b, F' b → H2 b = HZ b := fun b fb => stL.tm b fb fun i => datE_noown
    refine ⟨S'.car stL.car hF hE al stL.dom (fun b u nz nt e => ?_) fun b o fb nb e => fl b o fb e, ⟨stL.car, fun b fb => .inl (hF b fb), fun b fb _ => hE b fb, fun _ _ o => o, stL.dom, fun _ h => h⟩⟩
    by_cases fb : F' b
    · rw [hE b fb]; exact e
    · exact stL.car.rd b u fb nt e
  unfold trOf at k'
  cases gm : m (datE ρ) with
  | no => rw [gm] at k'; exact k'.elim
  | exc e ρ2 =>
    rw [gm] at k'
    intro cls d H2 F2 SL stL eo
    obtain ⟨al, fl⟩ := lam_end0 SL
    obtain ⟨S3, st3⟩ := back al fl stL
    exact k' cls d H2 F2 S3 st3 eo
  | ok r ρ2 =>
    rw [gm] at k'
    intro H2 F2 SL stL v vo nw
    obtain ⟨al, fl⟩ := lam_end0 SL
    obtain ⟨S3, st3⟩ := back al fl stL
    cases r with
    | dat d => exact k' H2 F2 S3 st3 v vo trivial
    | own d =>
      obtain ⟨b, rfl, fb, ob, nb, _⟩ := vo
      have nz : HZ b = none := nw b rfl
      have no := S'.noown nz
      exact k' H2 F2 S3 st3 _ ⟨b, rfl, fb, ob, no.2.1, no.2.2⟩ nw
    | bor i => exact k'.elim
    | thg o => exact k'.elim
section
variable [Tab] [Zok] {X : Cx} {W : WX} {Z : Zone} {F : Forb} {ρ : Env} {σ : St} {H : Hp} {pins : List (Addr × Obj)} {s : Shared}
/-- a lambda's making changes tables alone -/
theorem SR.extN {H1 : Hp} (S : SR X.K Z F ρ σ H) (e : LamX.ExtN H H1) (t : LamX.Tabs Tab.T H1) (hd : ∀ a, H a ≠ none → H1 a ≠ none) : SR X.K Z F ρ σ H1 ∧ Step σ F F ρ ρ H H1 := by
  have he : ∀ a, F a → H1 a = H a := fun a f => by
    cases q : H a with
    | none => exact absurd q (S.al a f)
    | some o =>
      refine e a o q fun ps z => ?_
      have m := S.fl a o f q
      rw [z] at m
      exact m
  have c : Car F F H H1 := ⟨fun a u _ n r => e a u r n, fun a f => .inl f, fun _ => t⟩
  exact ⟨S.car c (fun _ f => f) he (fun a f => hd a (S.al a f)) hd (fun a u _ n r => e a u r n) (fun a o f n => absurd f n), ⟨c, fun a f => .inl f, fun a f _ => he a f, fun _ _ o => o, hd, fun _ h => h⟩⟩
/-- x(lambda: body), x a def that calls what it got -/
theorem q_told {x a : Str} {st : Stmt} {g c P : Addr} {fd : FuncData} {k : Nat} {Ng : List Str} {params : Arguments} {body : Expr} {scope : Scope} {m : ME} {mb : TR → MS} {p lpos pos : Pos}
    (Fg : Fun X.K x x st g fd) (Sg : FnScope Ng [a] (defScope st)) (hNg : Ng[0]? = some a) (hva : Vis (defScope st) a) (hbg : Binds X.K fd [a] [])
    (To : ToldOk X.prog X.w X.K X.mg X.base (k + 1) Ng x st g a mb) (hg : Gl X x) (hm : X.mg x = some (.ref g))
    (TB : LamX.TabB X.base X.mg c P) (hcode : X.env.code = .ref c) (hmT : (P, X.env.qual ++ "<lambda>") ∈ Tab.T) (hu : ∀ p ∈ Tab.T, p.1 = P → p.2 = X.env.qual ++ "<lambda>") (hr : Room (k + 2) X.A) (L : LamX.LamS X.env.scope scope) (hdef : defaultsOf params X.env = ([], []))
    (hbind : ∀ (q : Str) (cl : List (Str × Addr)) (pm cv ctv : Value), bindArgs (PySem.W.kla_fn "<lambda>" q params body scope cl pm cv ctv) ⟨[], []⟩ = pure [])
    (hbody : ∀ (A : Around) (outer : List PySem.Env) (s : Shared) (H : Hp) (E : XK) (f c' : Addr) (L' : Addr), Room k (A.deeper (LamX.lamEnv X scope L' f c')) → Takes (LamX.lamCx X A outer s H E scope f c') (fun cls d _ H => E cls d H) → @QE _ zTrue (LamX.lamCx X A outer s H E scope f c') (fun cls d _ H => E cls d H) body m)
    (hdb : (x == ("__debug__" : Str)) = false := by decide) (hd : (a == ("__debug__" : Str)) = false := by decide) (hcd : (a == ("__classdict__" : Str)) = false := by decide) :
    QE X W (.Call (.Name x p) [.Lambda params body scope lpos] [] pos) (mTold Ng.length m mb) := by
  obtain ⟨oc, od, kV, doc, pm0, an, cdv, ct, osl, efd, lk, hcg⟩ := Fg.ex
  refine ⟨fun pins s σ H Q I h => ?_⟩
  obtain ⟨Z, F, ρ, S, kk⟩ := h
  refine wpAny_Call_Name_kw (ld_glob I hg hm ?_ hdb)
  refine PySem.W.callWith_K (h₀ := X.base) I.ok.mod.kin Fg.kp ?_ (by rfl) (by rfl)
  show wpAny _ _ (spliced ((false, eval (.Lambda params body scope lpos) X.env) :: backTo pos (starEach [] X.env))) _ _ s
  refine Calls.spliced_cons (lam_at I TB hcode hmT hu S.tabs hdef L fun f c' pm' ctv H1 s' I1 eN T1 hdom hf hfn hfr hco => ?_)
  refine Calls.spliced_nil ⟨I1.kIn, ?_⟩
  obtain ⟨S1, st1⟩ := S.extN eN T1 hdom
  have rc : codeAny (model X.prog X.w) X.A (.call (.ref g) ⟨[.ref f], []⟩) (CR C8.CX0 X.stack X.prog X.w H1 s' Q C8.E0) s' := by
    subst efd
    refine LamX.run_ofS (N := Ng) (ps := [a]) (us := [.ref f]) (vs := [.ref f]) lk hcg Sg hr I1.env0 (hbg s' [.ref f] I1.kIn rfl) (.cons rfl .nil) rfl fun hr' => ?_
    -- the def's body, in the zone that it is entered in
    have Ar : ArgsOk X.K F H1 [.ref f] [.opq .unk] := ⟨rfl, fun i sv e => ?_, fun i d e => ?_, fun i j b ⟨d, e, _⟩ _ => ?_, S1.tabs, S1.fl⟩
    · have body := (To (zAt (zone H1 F [.ref f] [.opq .unk])) cdv X.A X.stack s' H1 (trOf m ρ) hr' fun pn xe W' p1 p2 tk => ?_).nox
      · refine ⟨_, body, zone H1 F [.ref f] [.opq .unk], F, entry Ng.length [.opq .unk], ?_, ?_⟩
        · exact @start_ok _ (zAt (zone H1 F [.ref f] [.opq .unk])) X.K Ng [.ref f] [.opq .unk] F H1 Ar S1.al (by
            have := (List.getElem?_eq_some_iff.mp hNg).1
            exact this) rfl
        · refine @body_end _ (zAt (zone H1 F [.ref f] [.opq .unk])) X.K X.mg (tCx X.prog X.w X.K X.mg X.base Ng x st g cdv X.A X.stack s' H1).nox [.ref f] [.opq .unk] F H1 Q C8.E0 (mb (trOf m ρ)) Ng.length (L2.start Ng [.ref f]) rfl rfl Ar (by
            have := (List.getElem?_eq_some_iff.mp hNg).1
            exact this) ?_
          unfold mTold at kk
          cases gf : fn Ng.length (mb (trOf m ρ)) [.opq .unk] with
          | no => rw [gf] at kk; exact kk.elim
          | exc e => rw [gf] at kk; exact kk.elim
          | ok r outs =>
            rw [gf] at kk
            dsimp only
            intro v H' F1 ce oo ro
            have he : ∀ b, F b → H' b = H1 b := fun b fb => ce.keep b fb fun i => not_mut
            have hx : ∀ b u, ¬ Z.F b → (∀ ps, u ≠ .tbl ps) → H1 b = some u → H' b = some u := fun b u nz nt e => by
              by_cases fb : F b
              · rw [he b fb]; exact e
              · exact ce.car.rd b u fb nt e
            have S2 : SR X.K Z F1 ρ σ H' := S1.car ce.car ce.up he ce.al ce.dom hx fun b o fb nb e => ce.fl b o fb e
            have st2 : Step σ F F1 ρ ρ H1 H' := ⟨ce.car, fun b fb => .inl (ce.up b fb), fun b fb _ => he b fb, fun _ _ o => o, ce.dom, fun _ h => h⟩
            cases r with
            | dat d => exact kk H' F1 S2 (st1.trans st2) v ro trivial
            | own d =>
              obtain ⟨b, rfl, fb, ob, nb⟩ := ro
              have no := S1.noown nb
              refine kk H' F1 S2 (st1.trans st2) _ ⟨b, rfl, fb, ob, no.2.1, no.2.2⟩ fun b' e => ?_
              cases e
              cases q : H b with
              | none => rfl
              | some o => exact absurd nb (hdom b (nn q))
            | par d => exact ro.elim
            | opq o => exact kk H' F1 S2 (st1.trans st2) v ro trivial
      · -- the lambda's call
        refine PE.of (act_at (t := fun E => @RE _ zTrue X (fun cls d _ H => E cls d H) m) I1 L hf hfn hfr (hbind _ _ _ _ _) tk hr' (fun A outer s2 H2 E hr2 tk2 => hbody A outer s2 H2 E f c' _ hr2 tk2) hNg hva hd hcd) fun σZ HZ Q' h => ?_
        exact act_read (zAt (zone H1 F [.ref f] [.opq .unk])) (fun _ z => z) S1.len (fun i d e _ => S1.slot i _ e) S1.fl hco h
    · cases i with
      | zero => simp at e; subst e; exact ⟨_, rfl, trivial⟩
      | succ i => simp at e
    · cases i with
      | zero => simp at e
      | succ i => simp at e
    · cases i with
      | zero => simp at e
      | succ i => simp at e
  refine wpAny_call (codeAny_mono rc fun r s2 hq => ?_)
  cases r with
  | error e => exact (show False from hq).elim
  | ok fl =>
    cases fl with
    | ret u => exact I1.after hq
    | next => exact False.elim hq
    | brk => exact False.elim hq
    | cont => exact False.elim hq
end
end PD

namespace PD
open PySem PySem.Spec PyProof.Rows L2
/-! ### an own error without fields is made and raised -/
/-- LandError.__init__: nothing is told -/
def spIni (K : PySem.W.Frag) : Sp := fun vs H Q _ => ∃ a C : Addr, vs = [.ref a] ∧ OexC K C ∧ H a = some (exo a C none) ∧ Q .non H
section
variable {X : Cx}
/-- the made exception is let go -/
theorem mk_bare {pins : List (Addr × Obj)} {σ : St} {H1 H2 : Hp} {Q : XK} {hp hp2 h2 : Heap} {g1 g2 : Array GenState} {d1 d2 : Drawn} {t1 t2 : Nat} {os1 os2 : OsState} {a C : Addr} (T : Raises X (.ref C)) (I1 : Inv X pins σ H1 ⟨hp, g1, d1, t1, os1⟩)
    (ha : hp.objs.size ≤ a) (k : ∀ b o, hp.get? b = some o → hp2.get? b = some o) (un : Un (frs X.stack) [] (upd H1 a (exo a C none)) H2 hp2 h2) (hok : HOk X.prog X.w H2 h2) (ho : os2 = os1) (hb : AllBare g2)
    (ea : H2 a = some (exo a C none)) (q : Q (.ref C) none (del H2 a)) : MkP X pins σ Q (.ref a) ⟨h2, g2, d2, t2, os2⟩ := by
  obtain ⟨t0, hoe⟩ := exo_at hok ea
  have n1 : H1 a = none := I1.hok.fresh ha
  obtain ⟨G, r1, r2⟩ := restrict h2 fun b => decide (b ≠ a)
  have gk : ∀ b, b ≠ a → G.get? b = h2.get? b := fun b hb => r1 b (decide_eq_true hb)
  have ga : G.get? a = none := r2 a (by simp)
  have old : ∀ {b : Addr} {o : Obj}, hp.get? b = some o → b ≠ a := fun {b o} z => Nat.ne_of_lt (Nat.lt_of_lt_of_le (Heap.lt_size z) ha)
  have none2 : ∀ {b : Addr}, b ≠ a → H1 b = none → upd H1 a (exo a C none) b = none := fun {b} hb n => (upd_ne hb).trans n
  have some2 : ∀ {b : Addr} {u : HO}, H1 b = some u → upd H1 a (exo a C none) b = some u := fun {b u} z => (upd_ne (ne_of_none z n1)).trans z
  have U : Un (frs X.stack) [] H1 (del H2 a) hp G := {
    keep := fun b o z n hf hx => (gk b (old z)).trans (un.keep b o (k b o z) (none2 (old z) n) hf hx)
    slot := fun b o z n hf hx => by rw [gk b (old z)]; exact un.slot b o (k b o z) (none2 (old z) n) hf hx
    free := fun b o z n hx => (del_ne (old z)).trans (un.free b o (k b o z) (none2 (old z) n) hx)
    there := fun b o z hx => by rw [gk b (old z)]; exact un.there b o (k b o z) hx
    tups := fun b xs z => (del_ne (ne_of_none z n1)).trans (un.tups b xs (some2 z))
    frzs := fun b o v z => (del_ne (ne_of_none z n1)).trans (un.frzs b o v (some2 z))
    tbls := fun b ps z => by rw [del_ne (ne_of_none z n1)]; exact un.tbls b ps (some2 z) }
  have hok3 : HOk X.prog X.w (del H2 a) G := fun b o z => by
    have hba : b ≠ a := fun e => by rw [e, del_same] at z; cases z
    rw [del_ne hba] at z
    have noa : ∀ {c : Addr}, H2 c = some (.own b) → c ≠ a := fun {c} hc => at_ne ea hc exo_own
    refine (hok b o z).stay (fun c v hc y => ?_) (fun c hc => (del_ne (noa hc)).trans hc) fun c xs hc => (del_ne (at_ne ea hc exo_tup)).trans hc
    have hca : c ≠ a := by
      rcases hc with hc | hc
      · rw [hc]; exact hba
      · exact noa hc
    rw [gk c hca]
    exact y
  have J : Inv X pins σ (del H2 a) ⟨G, g2, d2, t2, os2⟩ := I1.call' (ch := []) ho U hok3 hb (fun b z => absurd z (by simp))
  refine ⟨a, _, _, ⟨G, g2, d2, t2, os2⟩, _, .ref C, none, rfl, J, fun b o z => ?_, ga, hoe, ⟨rfl, rfl⟩, rfl, rfl, del_same, rfl, hb, T, q⟩
  by_cases hba : b = a
  · rw [hba] at z
    rw [show G.get? a = none from ga] at z
    cases z
  · exact (gk b hba).symm.trans z
theorem del_upd {H : Hp} {a : Addr} {o : HO} (n : H a = none) : del (upd H a o) a = H := by
  funext b
  by_cases e : b = a
  · rw [e, del_same, n]
  · rw [del_ne e, upd_ne e]
/-- C() -/
theorem pmk_oex0 {CX : CXT} {x : Str} {C fI : Addr} {k : Nat} {fd : FuncData} {ps : List Str} {p pos : Pos} (T : OexC X.K C) (iC : PySem.W.findIn X.K (.ref C) "__init__" = some (some (.ref fI))) (tI : PySem.W.typeIn X.K (.ref fI) = some (.type "function"))
    (F1 : FnOk X.prog X.w X.K X.mg X.base CX k fI fd ps (spIni X.K)) (hr : Room (k + 1) X.A) (hb : Binds X.K fd ps []) (hx : Passes CX X (fun _ _ _ => False)) (hg : Gl X x) (hm : X.mg x = some (.ref C)) (hdb : (x == ("__debug__" : Str)) = false := by decide) :
    PMk X (.Call (.Name x p) [] [] pos) (fun _ H Q => Q (.ref C) none H) := by
  intro pins s σ H1 Q I1 h
  obtain ⟨nm, q, N, bs, bm, sn, sub, ab, col, dd, k0, k1, k2, k3, k5, hC, hbm⟩ := T.cls
  refine wpAny_Call_Name_kw (ld_glob I1 hg hm ?_ hdb)
  refine PySem.W.callWith_K0 (K := X.K) I1.kIn T.kC ?_
  show wpAny _ _ (call (.ref C) []) _ _ _
  obtain ⟨hp, g, dr, tk, os⟩ := s
  have hsz : hp.objs.size ≤ hp.objs.size + 1 := Nat.le_succ _
  have hn : H1 (hp.objs.size + 1) = none := I1.hok.fresh hsz
  have hq : spIni X.K [.ref (hp.objs.size + 1)] (upd H1 (hp.objs.size + 1) (exo (hp.objs.size + 1) C none)) (fun v H2 => v = .non ∧ H2 = upd H1 (hp.objs.size + 1) (exo (hp.objs.size + 1) C none)) (fun _ _ _ => False) := ⟨_, C, rfl, T, upd_same, rfl, rfl⟩
  have kk : ∀ b o, hp.get? b = some o → ((hp.push (PySem.W.kdv_tup [])).push (PySem.HandSPX.excO C hp.objs.size)).get? b = some o := fun b o e => Heap.get?_push_of_some _ (Heap.get?_push_of_some _ e)
  have hget : ((hp.push (PySem.W.kdv_tup [])).push (PySem.HandSPX.excO C hp.objs.size)).get? (hp.objs.size + 1) = some (PySem.HandSPX.excO C hp.objs.size) := by heap_get
  have I2 : Inv X pins σ (upd H1 (hp.objs.size + 1) (exo (hp.objs.size + 1) C none)) ⟨(hp.push (PySem.W.kdv_tup [])).push (PySem.HandSPX.excO C hp.objs.size), g, dr, tk, os⟩ :=
    I1.laid (t' := tk) (a := hp.objs.size + 1) (o := exo (hp.objs.size + 1) C none) (h' := (hp.push (PySem.W.kdv_tup [])).push (PySem.HandSPX.excO C hp.objs.size)) kk hsz (exo_ok hget)
  have r2 : Vals [V.ref (hp.objs.size + 1)] [Value.ref (hp.objs.size + 1)] := .cons rfl .nil
  have hl : [Value.ref (hp.objs.size + 1)].length = ps.length := by
    have e := F1.len _ _ _ _ hq
    exact e
  have hb' := hb _ [Value.ref (hp.objs.size + 1)] I2.kIn (by simpa using hl)
  rw [List.append_nil] at hb'
  refine wpAny_call (PySem.HandSPX.call_own F.excBase_ValueError (fun Y => PySem.HandSPX.refsVE_contains Y bm hbm) (I1.kIn _ _ hC) (PySem.W.looks_findIn I1.kIn iC) (fun self => PySem.W.bind_fn I1.kIn self tI) (by rw [sizeLine_eq]; exact (by decide))
    (codeAny_mono (F1.run _ X.stack _ _ ⟨[Value.ref (hp.objs.size + 1)], []⟩ [Value.ref (hp.objs.size + 1)] _ _ (fun _ _ _ => False) (hr.make C [] []) (I2.env0.make C [] []) hb' r2 hq) fun r s' hq' => ?_))
  cases r with
  | error er => exact hx pins σ _ _ er s' I2 hq'
  | ok fl =>
    cases fl with
    | ret u =>
      obtain ⟨v, H2, os2, bare2, un2, hok2, rv, ev, eH⟩ := hq'
      subst ev
      obtain ⟨h2, g2, d2, t2, os'⟩ := s'
      refine ⟨rv, mk_bare (raises_own T.exC T.tyC) I1 hsz kk un2 hok2 os2 bare2 (by rw [eH, upd_same]) ?_⟩
      rw [eH, del_upd hn]
      exact h
    | next => exact False.elim hq'
    | brk => exact False.elim hq'
    | cont => exact False.elim hq'
end
def sRaise (x : Str) : MS := fun ρ => .exc ⟨x, []⟩ ρ
section
variable [Tab] [Zok] {X : Cx} {W : WX}
theorem qs_raise {x : Str} {C : Addr} {e : Expr} {pos : Pos} (hc : X.calm = true) (tk : Takes X W) (hm : X.mg x = some (.ref C)) (he : PMk X e (fun _ H Q => Q (.ref C) none H)) : QS X W (.Raise (some e) none pos) (sRaise x) := by
  refine PS.of (ps_raise hc tk he) fun D σ H hq => ?_
  obtain ⟨Z, F, ρ, S, k⟩ := hq
  exact k _ _ σ H F S .refl ⟨⟨C, rfl, hm⟩, fun _ => rfl⟩
end
end PD

namespace PD
open PySem PySem.Spec PyProof.Rows L2
/-! ### try: .. except C as e: .. -/
def sTry (i : Nat) (ca : Exc → Option Bool) (mb : MS) (mh : Exc → MS) : MS := fun ρ => match mb ρ with
  | .exc e ρ1 => match ca e with
    | some true => if parAt ρ1 i || !decide (i < ρ1.length) then .no else match mh e (ρ1.set i (some (.opq (.exc e.cls)))) with
      | .next ρ2 => .next (ρ2.set i none)
      | .brk ρ2 => .brk (ρ2.set i none)
      | .cont ρ2 => .cont (ρ2.set i none)
      | .ret r ρ2 => .ret r (ρ2.set i none)
      | _ => .no
    | some false => .exc e ρ1
    | none => .no
  | o => o
def zWith (Z : Zone) (i : Nat) (v : V) : Zone := { Z with O := (i, v) :: Z.O }
@[reducible] def zSuite (zk : Zok) (i : Nat) (a : Addr) : Zok := ⟨fun Z2 => ∃ Z, zk.ok Z ∧ Z2 = zWith Z i (.ref a)⟩
theorem sr_in [Tab] (zk : Zok) {K : PySem.W.Frag} {Z : Zone} {F : Forb} {ρ : Env} {σ : St} {H : Hp} {i : Nat} {a : Addr} (S : @SR _ zk K Z F ρ σ H) (hρ : ∃ o, ρ[i]? = some (some (.opq o)) ∧ o.prot = true) (hσ : σ[i]? = some (some (.ref a))) : @SR _ (zSuite zk i a) K (zWith Z i (.ref a)) F ρ σ H := by
  obtain ⟨a1, a2, a3, a4, a5, a6, a7, a8, a9, b1, b2, b3, b4, b5, b6⟩ := S
  refine @SR.mk _ (zSuite zk i a) K (zWith Z i (.ref a)) F ρ σ H a1 a2 a3 a4 a5 a6 a7 a8 a9 b1 b2 b3 b4 ⟨Z, b5, rfl⟩ fun p hp => ?_
  rcases List.mem_cons.mp hp with e | hp
  · subst e; exact ⟨hρ, hσ⟩
  · exact b6 p hp
theorem sr_out [Tab] (zk zk' : Zok) {K : PySem.W.Frag} {Z : Zone} {F : Forb} {ρ : Env} {σ : St} {H : Hp} {i : Nat} {v : V} (hz : zk.ok Z) (S : @SR _ zk' K (zWith Z i v) F ρ σ H) : @SR _ zk K Z F ρ σ H ∧ ∃ o, ρ[i]? = some (some (.opq o)) ∧ o.prot = true := by
  obtain ⟨a1, a2, a3, a4, a5, a6, a7, a8, a9, b1, b2, b3, b4, b5, b6⟩ := S
  exact ⟨@SR.mk _ zk K Z F ρ σ H a1 a2 a3 a4 a5 a6 a7 a8 a9 b1 b2 b3 b4 hz fun p hp => b6 p (List.mem_cons_of_mem _ hp), (b6 (i, v) List.mem_cons_self).1⟩
section
variable [Tab] [Zok] {X : Cx} {W : WX} {K : PySem.W.Frag} {Z : Zone} {σ σ1 : St} {F F1 : Forb} {ρ ρ1 : Env} {H H1 : Hp}
omit [Tab] [Zok] in
theorem get_none {α : Type} {l : List (Option α)} {i j : Nat} {y : α} (h : (l.set i none)[j]? = some (some y)) : j ≠ i ∧ l[j]? = some (some y) := by
  by_cases e : j = i
  · subst e
    rw [List.getElem?_set] at h
    simp at h
  · rw [List.getElem?_set_ne (Ne.symm e)] at h
    exact ⟨e, h⟩
omit [Tab] [Zok] in
theorem OwnAt.of_gone {i j : Nat} {a : Addr} (o : OwnAt (ρ.set i none) (σ.set i none) j a) : j ≠ i ∧ OwnAt ρ σ j a := by
  obtain ⟨sv, h1, h2, h3⟩ := o
  obtain ⟨n, h1⟩ := get_none h1
  exact ⟨n, sv, h1, h2, (get_none h3).2⟩
/-- a name is unbound -/
theorem SR.gone {i : Nat} (S : SR K Z F ρ σ H) (hi : ∃ o, ρ[i]? = some (some (.opq o)) ∧ o.prot = true) (nO : ∀ p ∈ Z.O, p.1 ≠ i) : SR K Z F (ρ.set i none) (σ.set i none) H where
  len := by simpa using S.len
  al := S.al
  m0 := S.m0
  keepM := S.keepM
  ext := S.ext
  dom := S.dom
  slot := fun j sv e => by
    obtain ⟨n, e⟩ := get_none e
    obtain ⟨v, h1, h2⟩ := S.slot j sv e
    exact ⟨v, by rw [List.getElem?_set_ne (Ne.symm n)]; exact h1, h2⟩
  par := fun p hp => by
    obtain ⟨d, h1, h2⟩ := S.par p hp
    have n : p.1 ≠ i := fun e => by
      obtain ⟨o, hi, _⟩ := hi
      rw [e, hi] at h1; cases h1
    exact ⟨d, by rw [List.getElem?_set_ne (Ne.symm n)]; exact h1, by rw [List.getElem?_set_ne (Ne.symm n)]; exact h2⟩
  apart := fun j k a oj ok => S.apart j k a oj.of_gone.2 ok.of_gone.2
  notM := fun j a o => S.notM j a o.of_gone.2
  fz := S.fz
  tabs := S.tabs
  fl := S.fl
  zok := S.zok
  opq := fun p hp => by
    obtain ⟨⟨o, h1, h3⟩, h2⟩ := S.opq p hp
    exact ⟨⟨o, by rw [List.getElem?_set_ne (Ne.symm (nO p hp))]; exact h1, h3⟩, by rw [List.getElem?_set_ne (Ne.symm (nO p hp))]; exact h2⟩
theorem StepS.gone {σ' : St} {ρ' : Env} {F' : Forb} {H' : Hp} {i : Nat} (s : StepS σ σ' F F' ρ ρ' H H') : StepS σ (σ'.set i none) F F' ρ (ρ'.set i none) H H' where
  car := s.car
  dom := s.dom
  tm := fun a f n => by
    obtain ⟨e, f1, n1⟩ := s.tm a f n
    exact ⟨e, f1, fun j o => n1 j o.of_gone.2⟩
end
/-- what a caught error's class says -/
def ExcIs (mg : Str → Option Value) (e : Exc) (cls : Value) (d : Option Addr) : Prop := (∃ C, cls = .ref C ∧ mg e.cls = some (.ref C)) ∧ (e.args = [] → d = none)
/-- the error's object, told by itself -/
abbrev excO (oe : Obj) (a : Addr) : HO := .ext fun h => h.get? a = some oe
section
variable {X : Cx} {pins : List (Addr × Obj)} {σ : St} {H : Hp} {s : Shared}
/-- an object that stands there is told of from here on -/
theorem inv_track {a : Addr} {oe : Obj} {vs : Array Value} (J : Inv X pins σ H s) (ha : s.heap.get? a = some oe) (hd : oe.data = .fields vs) (na : H a = none) (nL : a ≠ X.env.locals) (n0 : X.s_0.heap.get? a = none) (np : ∀ p ∈ X.pn ++ pins, p.1 ≠ a) : Inv X pins σ (upd H a (excO oe a)) s := by
  have keep : ∀ {b : Addr} {u : HO}, H b = some u → upd H a (excO oe a) b = some u := fun {b u} e => (upd_ne (ne_of_none e na)).trans e
  have gone : ∀ {b : Addr}, b ≠ a → H b = none → upd H a (excO oe a) b = none := fun {b} n e => (upd_ne n).trans e
  refine ⟨J.ok, J.os, J.bare, ⟨J.base.keep, J.base.slot, fun b o e n hx => gone (fun z => ?_) (J.base.free b o e n hx), J.base.there, fun b xs e => keep (J.base.tups b xs e), fun b o u e => keep (J.base.frzs b o u e), fun b ps e => ?_⟩,
    J.loc, J.cell, gone nL.symm J.free, fun x c e => gone (fun z => ?_) (J.freeC x c e), fun p hp => ?_, fun b u e => ?_, J.len⟩
  · rw [z, n0] at e; cases e
  · obtain ⟨more, q⟩ := J.base.tbls b ps e
    exact ⟨more, keep q⟩
  · obtain ⟨v, o, ho, hc⟩ := J.cell x c e
    rw [z, ha] at ho
    cases ho
    rw [hd] at hc
    cases hc
  · obtain ⟨p1, p2, p3⟩ := J.pin p hp
    exact ⟨p1, gone (np p hp) p2, p3⟩
  · by_cases hb : b = a
    · subst hb
      rw [upd_same] at e
      cases e
      exact ⟨ha, ⟨oe, ha⟩, fun h1 h2 q k => k _ q⟩
    · rw [upd_ne hb] at e
      exact (J.hok b u e).stay (fun _ _ _ q => q) (fun _ q => keep q) fun _ _ q => keep q
theorem inv_suite {a : Addr} (J : Inv X pins σ H s) : Inv (X.suite a (X.pn ++ pins)) [] σ H s :=
  ⟨J.ok.suite _ _, J.os, J.bare, J.base, J.loc, J.cell, J.free, J.freeC, fun p hp => J.pin p ((List.append_nil (X.pn ++ pins)) ▸ hp), J.hok, J.len⟩
theorem inv_unsuite {a : Addr} (ok : X.Ok) (J : Inv (X.suite a (X.pn ++ pins)) [] σ H s) : Inv X pins σ H s :=
  ⟨ok, J.os, J.bare, J.base, J.loc, J.cell, J.free, J.freeC, fun p hp => J.pin p (List.mem_append_left [] hp), J.hok, J.len⟩
end
/-- the end of a suite: the error's name is unbound -/
abbrev unN (i : Nat) (D : Ends) : Ends := { nx := fun σ' H' => D.nx (σ'.set i none) H', rt := D.rt, bk := fun σ' H' => D.bk (σ'.set i none) H', ct := fun σ' H' => D.ct (σ'.set i none) H' }
/-- what a body that may raise is asked for -/
def wTr (K : PySem.W.Frag) (c : Value) (i : Nat) (ts : Addr → Value → TS) (Wout : WX) (D : Ends) : WX := fun cls d σ H =>
  ∃ b, PySem.W.exmOne K cls c = some b ∧ (b = true → d = none ∧ ∀ a oe, H a = none → Zc cls none oe → (∃ vs, oe.data = .fields vs) → ts a cls (unN i D) (σ.set i (some (.ref a))) (upd H a (excO oe a))) ∧ (b = false → Wout cls d σ H)
section
variable {X : Cx} {x n : Str} {c : Value} {i : Nat} {body suite : List Stmt} {b₀ : Stmt} {np pos pos' : Pos} {tb : WX → TS} {ts : Addr → Value → TS} {Wout : WX}
/-- try: .. except C as e: .., the error a thing that is told of -/
theorem ps_try_tr (hex : X.ex = []) (hs : X.stack = X.env :: X.outer) (hf : X.env.frame = some X.env.locals) (hN : X.N.Nodup) (hi : X.N[i]? = some n) (hln : X.env.kindOf n = some .local) (hc : Names X x c) (tk : Takes X Wout)
    (hb : ∀ (W : WX) (pn : List (Addr × Obj)) (xe : Value → Shared → Prop), Takes (X.tr pn xe) W → PassesOwn (model X.prog X.w) X.A X.env xe → PSs (X.tr pn xe) body (tb W))
    (hsu : ∀ (a : Addr) (cls : Value) (pn : List (Addr × Obj)), PSs (X.suite a pn) (b₀ :: suite) (ts a cls)) :
    PS X (.Try body [.ExceptHandler (some (.Name x np)) (some n) (b₀ :: suite) pos'] [] [] pos) (fun D σ H => tb (wTr X.K c i ts Wout D) D σ H) := by
  refine ⟨fun pins s σ H D I h => ?_⟩
  have okX := I.ok
  have frX : X.A.frames = some (X.env :: X.outer) := okX.frames.trans (congrArg some hs)
  refine wpAny_Try_except ?_
  have caught : ∀ (u : Value) (s' : Shared), XE (X.tr (X.pn ++ pins) (fun e s₁ => wpAny (model X.prog X.w) X.A (noteFrame e X.env) (fun _ s₂ => wpAny (model X.prog X.w) X.A (setFlight e none) (fun _ s₃ =>
      wpAny (model X.prog X.w) X.A (handleBy e X.env [.ExceptHandler (some (.Name x np)) (some n) (b₀ :: suite) pos']) (SP X pins D) X.xe s₃) X.xe s₂) X.xe s₁)) (wTr X.K c i ts Wout D) u s' →
      wpAny (model X.prog X.w) X.A (noteFrame u X.env) (fun _ s₂ => wpAny (model X.prog X.w) X.A (setFlight u none) (fun _ s₃ =>
      wpAny (model X.prog X.w) X.A (handleBy u X.env [.ExceptHandler (some (.Name x np)) (some n) (b₀ :: suite) pos']) (SP X pins D) X.xe s₃) X.xe s₂) X.xe s' := by
    rintro u s' ⟨a, B, sI, pp, σ', H', cls, d, rfl, J', nb, up, sky, na, os, ag, b, hb1, hyes, hno⟩
    have J : Inv X pins σ' H' sI := J'.ofTry okX
    have skyX : Sky B (X.env :: X.outer) a (Zc cls d) X.env.locals s'.heap := hs ▸ sky
    refine Sky.land Zc.steady frX hf skyX fun hA flA upA => ?_
    have JA : Inv X pins σ' H' { s' with heap := hA } := J.landed nb flA.1 (up.trans upA) os ag
    obtain ⟨oA, vA, eA, zA, dA⟩ := flA.there
    have notIn : ∀ l, (∀ b ∈ l, b ∈ (X.env :: X.outer)) → a ∉ frs l := fun l hl hm => by
      obtain ⟨en, he, q⟩ := List.mem_filterMap.mp hm
      obtain ⟨_, o', e', hnf⟩ := flA.2.2.1.mem (List.mem_filterMap.mpr ⟨en, hl en he, q⟩)
      rw [eA] at e'
      cases e'
      exact hnf _ dA
    have nL : a ≠ X.env.locals := fun z => notIn [X.env] (fun b hb => by rw [List.mem_singleton.mp hb]; exact List.mem_cons_self) (List.mem_filterMap.mpr ⟨X.env, List.mem_cons_self, by rw [hf, z]⟩)
    have nF : a ∉ X.fs := notIn X.outer fun b hb => List.mem_cons_of_mem _ hb
    have nB : B.get? a = none := flA.2.1
    have nS : a ∉ frs X.stack := by rw [hs]; exact notIn _ fun _ h => h
    have nI : sI.heap.get? a = none := by
      cases q : sI.heap.get? a with
      | none => rfl
      | some o => rw [nb a o q nS] at nB; cases nB
    have n0 : X.s_0.heap.get? a = none := by
      cases q : X.s_0.heap.get? a with
      | none => rfl
      | some o =>
        obtain ⟨o', e'⟩ := J.base.there a o q (by rw [hex]; exact fun z => nomatch z)
        rw [nI] at e'
        cases e'
    have npin : ∀ p ∈ X.pn ++ pins, p.1 ≠ a := fun p hp z => by
      have := (J.pin p hp).1
      rw [z, nI] at this
      cases this
    have SA := JA.suite eA dA na nL nF
    refine wpAny_handleBy_cons (codeAny_handlers_test ?_) (by intro q; cases q)
    have LT : PySem.W.Looks (model X.prog X.w) hA (typeOf (.ref a)) cls := fun A Q E s k q => wpAny_typeOf_ref (k _ _ eA) (by rw [zA.1]; exact q)
    have LM := PySem.W.exm_one (M := model X.prog X.w) (JA.kIn) LT hb1
    have look : ∀ {Q : Value → Shared → Prop} {E : Value → Shared → Prop}, Q c { s' with heap := hA } → wpAny (model X.prog X.w) (X.A.mark (some (.ref a))) (eval (.Name x np) X.env) Q E { s' with heap := hA } := fun {Q E} q => by
      obtain ⟨hg, hdbg, hm⟩ := hc
      rcases hm with hm | ⟨hm, hv, hnn⟩
      · exact ld_glob (X := X.suite a ((a, oA) :: (X.pn ++ pins))) SA hg hm q hdbg
      · exact ld_blt (X := X.suite a ((a, oA) :: (X.pn ++ pins))) SA hg hm hv q hnn hdbg
    refine look (LM.here ?_)
    cases b with
    | false =>
      show wpAny _ X.A (handleBy (.ref a) X.env []) _ _ _
      refine wpAny_handleBy_nil ?_
      obtain ⟨k1, k2, k3, oe, us, T, oT, ts', he, hz, hd, h1, hr⟩ := id flA
      unfold PySem.passOn
      refine wpAny_bind (wpAny_field he hd h1 ?_)
      rw [if_neg (show ¬ ((Value.ref T == Value.none) = true) from by simp)]
      have fin : wpAny (model X.prog X.w) X.A (setFlight (.ref a) X.env.frame) (fun _ s4 => wpAny (model X.prog X.w) X.A (throw (.ref a) : Sem Flow) (SP X pins D) X.xe s4) X.xe { s' with heap := hA } := by
        rw [hf]
        refine HandSPX.setFlight_upZ flA fun hB flB upB => wpAny_throw (tk _ _ ?_)
        exact ⟨a, B, sI, pins, σ', H', cls, d, rfl, J, nb, (up.trans upA).trans upB, .inr (.inr (by rw [hs]; exact flB)), na, os, ag, hno rfl⟩
      first
        | exact wpAny_bind (wpAny_pure (wpAny_bind fin))
        | exact wpAny_bind fin
    | true =>
      obtain ⟨dn, ask⟩ := hyes rfl
      refine codeAny_handlers_suite_as ?_
      refine HandSPX.lands_againZ flA fun hB flB upB => ?_
      have JB : Inv X pins σ' H' { s' with heap := hB } := J.landed nb flB.1 ((up.trans upA).trans upB) os ag
      obtain ⟨oB, vB, eB, zB, dB⟩ := flB.there
      have TB := inv_suite (a := a) (inv_track JB eB dB na nL n0 npin)
      refine store_ok (X := X.suite a (X.pn ++ pins)) (v := .ref a) TB hN hi (.inl hln) rfl (fun s5 S5 => ?_) (.inr hln)
      refine wpAny_mono ((hsu a cls (X.pn ++ pins)).run [] s5 _ _ _ S5 (ask a oB na (dn ▸ zB) ⟨_, dB⟩)) (fun f s6 hsp => ?_) (fun _ _ z => False.elim z)
      have fin : ∀ {σ6 : St} {H6 : Hp} {Q : Shared → Prop}, Inv (X.suite a (X.pn ++ pins)) [] σ6 H6 s6 → (∀ s7, Inv X pins (σ6.set i none) H6 s7 → Q s7) →
          wpAny (model X.prog X.w) X.A (do bindName X.env n .none; unbindBehindTheSuite X.env n pos') (fun _ s7 => Q s7) X.xe s6 := fun {σ6 H6 Q} S6 hq => gone_ok (inv_unsuite okX S6) hN hi hln hq
      cases f with
      | next => obtain ⟨σ6, H6, S6, q6⟩ := hsp; exact fin S6 fun s7 J7 => ⟨_, _, J7, q6⟩
      | brk => obtain ⟨σ6, H6, S6, q6⟩ := hsp; exact fin S6 fun s7 J7 => ⟨_, _, J7, q6⟩
      | cont => obtain ⟨σ6, H6, S6, q6⟩ := hsp; exact fin S6 fun s7 J7 => ⟨_, _, J7, q6⟩
      | ret u => obtain ⟨v6, σ6, H6, S6, r6, q6⟩ := hsp; exact fin S6 fun s7 J7 => ⟨_, _, _, J7, r6, q6⟩
  refine wpAny_mono ((hb (wTr X.K c i ts Wout D) (X.pn ++ pins) _ (fun u s' xx => caught u s' xx) PassesOwn.looking).run [] s σ H D (I.toTry _) h) (fun f s1 hsp => ?_) (fun e s1 he => he)
  cases f with
  | next => obtain ⟨σ', H', J', q⟩ := hsp; exact wpAny_execs_nil ⟨_, _, J'.ofTry okX, q⟩
  | brk => obtain ⟨σ', H', J', q⟩ := hsp; exact ⟨_, _, J'.ofTry okX, q⟩
  | cont => obtain ⟨σ', H', J', q⟩ := hsp; exact ⟨_, _, J'.ofTry okX, q⟩
  | ret u => obtain ⟨v, σ', H', J', r, q⟩ := hsp; exact ⟨v, _, _, J'.ofTry okX, r, q⟩
end
/-- isinstance of a thing that is told of: an error without fields -/
def rIsX (K : PySem.W.Frag) : List V → Hp → VK → Prop := fun xs H Q => ∃ (a D : Addr) (oe : Obj) (c : V) (cv : Value) (b : Bool), xs = [.ref a, c] ∧ H a = some (excO oe a) ∧ Zc (.ref D) none oe ∧ (∃ vs, oe.data = .fields vs) ∧ ExcC K D ∧ (∀ u, RelV c u → u = cv) ∧ PySem.W.kitOne K (.ref D) cv = some b ∧ Q (.bl b) H
theorem call_isX {X : Cx} : CallR X (.builtin "isinstance") (rIsX X.K) := by
  intro pins s σ H xs us Q I r h
  obtain ⟨a, D, oe, c, cv, b, rfl, ha, hz, hf, C, hcv, e, q⟩ := h
  obtain ⟨u1, u2, rfl, r1, r2⟩ := vals2 r
  cases (show u1 = Value.ref a from r1)
  cases hcv _ r2
  have at_ : s.heap.get? a = some oe := (I.hok a _ ha).1
  obtain ⟨vs, hv⟩ := hf
  have inst : PySem.W.InstAt s.heap a oe D none := by
    obtain ⟨oc, od, oda, osl⟩ := oe
    obtain ⟨z1, z2⟩ := hz
    dsimp only at z1 z2 hv
    subst z1 z2 hv
    exact ⟨at_, rfl, rfl, trivial⟩
  refine PySem.W.kia_one (PySem.W.handS_kitx_exc C.hg C.hk C.hs C.hd C.ha C.hn C.ht C.hm) I.kIn inst e (fun z => nomatch z) fun tk => ?_
  exact ⟨.bl b, H, I.kept (t' := tk) fun _ _ z => z, rfl, q⟩
theorem qs_try [Tab] (zk : Zok) {X : Cx} {W : WX} {x n : Str} {c : Value} {i : Nat} {body suite : List Stmt} {b₀ : Stmt} {np pos pos' : Pos} {ca : Exc → Option Bool} {mb : MS} {mh : Exc → MS} (hs : X.stack = X.env :: X.outer) (hf : X.env.frame = some X.env.locals) (hN : X.N.Nodup) (hi : X.N[i]? = some n) (hln : X.env.kindOf n = some .local) (hc : Names X x c) (tk : Takes X W)
    (hca : ∀ e cls d b, ExcIs X.mg e cls d → ca e = some b → PySem.W.exmOne X.K cls c = some b)
    (hns : ∀ e cls d, ExcIs X.mg e cls d → ca e = some true → d = none ∧ ∃ C, cls = .ref C ∧ PySem.W.nsIn X.K mainGlobals e.cls = some (some (.ref C)))
    (hb : ∀ (W : WX) (pn : List (Addr × Obj)) (xe : Value → Shared → Prop), Takes (X.tr pn xe) W → PassesOwn (model X.prog X.w) X.A X.env xe → @QB _ zk (X.tr pn xe) W body mb)
    (hh : ∀ (e : Exc) (a : Addr) (pn : List (Addr × Obj)), ca e = some true → @QB _ (zSuite zk i a) (X.suite a pn) W0 (b₀ :: suite) (mh e)) (hex : X.ex = [] := by rfl) :
    @QS _ zk X W (.Try body [.ExceptHandler (some (.Name x np)) (some n) (b₀ :: suite) pos'] [] [] pos) (sTry i ca mb mh) := by
  refine PS.of (ps_try_tr hex (tb := fun W => @RS _ zk X W mb) (ts := fun a cls D σ H => ∃ e, ca e = some true ∧ @RS _ (zSuite zk i a) X W0 (mh e) D σ H) (Wout := W) hs hf hN hi hln hc tk (fun W pn xe t p => hb W pn xe t p) (fun a cls pn => ⟨fun pins s σ H D I ⟨e, h1, h3⟩ => (hh e a pn h1).run pins s σ H D I h3⟩)) fun D σ H hq => ?_
  obtain ⟨Z, F, ρ, S, k⟩ := hq
  refine ⟨Z, F, ρ, S, ?_⟩
  unfold sTry at k
  cases g : mb ρ with
  | next ρ1 => rw [g] at k; exact k
  | brk ρ1 => rw [g] at k; exact k
  | cont ρ1 => rw [g] at k; exact k
  | ret r ρ1 => rw [g] at k; exact k
  | no => rw [g] at k; exact k
  | exc e ρ1 =>
    rw [g] at k
    dsimp only at k
    intro cls d σ1 H1 F1 S1 st1 eo
    cases gc : ca e with
    | none => rw [gc] at k; exact k.elim
    | some b =>
      rw [gc] at k
      refine ⟨b, hca e cls d b eo gc, fun hb' => ?_, fun hb' => ?_⟩
      · subst hb'
        obtain ⟨dn, C, ec, nsC⟩ := hns e cls d eo gc
        refine ⟨dn, fun a oe na zc hfl => ?_⟩
        dsimp only at k
        cases np : (parAt ρ1 i || !decide (i < ρ1.length)) with
        | true => rw [np] at k; exact k.elim
        | false =>
          rw [np, if_neg (by decide)] at k
          rw [Bool.or_eq_false_iff] at np
          obtain ⟨np, hl⟩ := np
          have hl : i < ρ1.length := by simpa using hl
          refine ⟨e, gc, ?_⟩
          obtain ⟨Sa, sta⟩ := S1.new (o := excO oe a) na
          have ob : ObjR X.K F1 (upd H1 a (excO oe a)) (.ref a) (.exc e.cls) := ⟨a, C, oe, rfl, (S1.noown na).1, upd_same, ec ▸ zc, hfl, nsC⟩
          have S2 := Sa.set (sv := .opq (.exc e.cls)) (v := .ref a) np ob fun _ z => nomatch z
          have st2 : StepS σ (σ1.set i (some (.ref a))) F F1 ρ (ρ1.set i (some (.opq (.exc e.cls)))) H (upd H1 a (excO oe a)) := (st1.trans sta.s).trans (step_set .refl Sa.al fun _ z => nomatch z)
          have nO : ∀ p ∈ Z.O, p.1 ≠ i := fun p hp e => by
            obtain ⟨o, h1, h2⟩ := (S1.opq p hp).1
            unfold parAt at np
            rw [e] at h1
            rw [h1] at np
            dsimp only at np
            rw [h2] at np
            cases np
          have S3 := sr_in zk S2 ⟨_, List.getElem?_set_self hl, rfl⟩ (List.getElem?_set_self (by rw [← S1.len]; exact hl))
          refine ⟨zWith Z i (.ref a), F1, ρ1.set i (some (.opq (.exc e.cls))), S3, ?_⟩
          cases gh : mh e (ρ1.set i (some (.opq (.exc e.cls)))) with
          | next ρ2 =>
            rw [gh] at k
            intro σ3 H3 F3 S4 st4
            obtain ⟨S5, q⟩ := sr_out zk (zSuite zk i a) S1.zok S4
            exact k _ H3 F3 (S5.gone q nO) (st2.trans st4).gone
          | brk ρ2 =>
            rw [gh] at k
            intro σ3 H3 F3 S4 st4
            obtain ⟨S5, q⟩ := sr_out zk (zSuite zk i a) S1.zok S4
            exact k _ H3 F3 (S5.gone q nO) (st2.trans st4).gone
          | cont ρ2 =>
            rw [gh] at k
            intro σ3 H3 F3 S4 st4
            obtain ⟨S5, q⟩ := sr_out zk (zSuite zk i a) S1.zok S4
            exact k _ H3 F3 (S5.gone q nO) (st2.trans st4).gone
          | ret r ρ2 =>
            rw [gh] at k
            intro v σ3 H3 F3 S4 st4 vo
            obtain ⟨S5, q⟩ := sr_out zk (zSuite zk i a) S1.zok S4
            refine k v (σ3.set i none) H3 F3 (S5.gone q nO) (st2.trans st4).gone ?_
            cases r with
            | dat d => exact vo
            | thg o => exact vo
            | own d =>
              obtain ⟨b, rfl, fb, ob, mb', no⟩ := vo
              exact ⟨b, rfl, fb, ob, mb', fun j o => no j o.of_gone.2⟩
            | bor j =>
              have hj : j ≠ i := fun e => vo.2 (by obtain ⟨o, q, _⟩ := q; unfold slotD; rw [e, q])
              refine ⟨by rw [List.getElem?_set_ne (Ne.symm hj)]; exact vo.1, ?_⟩
              have := vo.2
              unfold slotD at this ⊢
              rw [List.getElem?_set_ne (Ne.symm hj)]
              exact this
          | exc e2 ρ2 => rw [gh] at k; exact k.elim
          | no => rw [gh] at k; exact k.elim
      · subst hb'
        exact k cls d σ1 H1 F1 S1 st1 eo
end PD

namespace PD
open PySem PySem.Spec PyProof.Rows L2
/-! ### xs[::-1] -/
section
open HT
variable {prog : Program} {w : World} {A : Around} {E : Value → Shared → Prop} {s : Shared}
theorem sliceApplied_rev {sl : Addr} {vl vu vs : Value} {n : Nat} {Q : Int × Int × Nat → Shared → Prop} (hs : s.heap.IsSliceOf sl vl vu vs) (pl : IsPart vl none) (pu : IsPart vu none) (ps : IsPart vs (some (-1)))
    (h : Q ((n : Int) - 1, -1, n) s) : wpAny (model prog w) A (Builtin.Slice.sliceApplied (.ref sl) (pure (n : Int))) Q E s := by
  obtain ⟨os, hos, hcs, hds⟩ := id hs
  unfold Builtin.Slice.sliceApplied Builtin.Slice.sliceFields
  refine wpAny_bind (wpAny_bind (wpAny_field hos hds (x := vl) rfl (wpAny_bind (wpAny_field hos hds (x := vu) rfl (wpAny_bind (wpAny_field hos hds (x := vs) rfl (wpAny_pure ?_)))))))
  refine wpAny_bind (slicePart_ ps ?_)
  show wpAny _ _ (if ((-1 : Int) == 0) = true then _ else _) _ _ s
  rw [if_neg (by decide)]
  refine wpAny_bind (slicePart_ pl (wpAny_bind (slicePart_ pu (wpAny_bind (wpAny_pure ?_)))))
  show wpAny _ _ (pure (((n : Int) - 1), (-1 : Int), Builtin.Slice.slicePlaces ((n : Int) - 1) (-1) (-1))) _ _ s
  have e : Builtin.Slice.slicePlaces ((n : Int) - 1) (-1) (-1) = n := by
    unfold Builtin.Slice.slicePlaces
    rw [if_neg (by decide)]
    by_cases h0 : n = 0
    · subst h0; rfl
    · rw [if_pos (by omega)]
      have : ((n : Int) - 1 - -1 - 1) / (- -1) + 1 = n := by
        rw [show (- -1 : Int) = 1 from rfl, Int.ediv_one]
        omega
      rw [this]
      simp
  rw [e]
  exact wpAny_pure h
theorem pick_rev (xs : Array Value) : ((List.range xs.size).filterMap fun (m : Nat) => xs[(((xs.size : Int) - 1) + (m : Int) * (-1)).toNat]?).toArray = xs.toList.reverse.toArray := by
  congr 1
  have e : (List.range xs.size).filterMap (fun (m : Nat) => xs[(((xs.size : Int) - 1) + (m : Int) * (-1)).toNat]?) = (List.range xs.size).filterMap fun (m : Nat) => xs[xs.size - 1 - m]? := by
    have go : ∀ l : List Nat, (∀ m ∈ l, m < xs.size) → l.filterMap (fun (m : Nat) => xs[(((xs.size : Int) - 1) + (m : Int) * (-1)).toNat]?) = l.filterMap fun (m : Nat) => xs[xs.size - 1 - m]? := by
      intro l
      induction l with
      | nil => intro _; rfl
      | cons m l ih =>
        intro h
        have hm := h m List.mem_cons_self
        have e : (((xs.size : Int) - 1) + (m : Int) * (-1)).toNat = xs.size - 1 - m := by omega
        rw [List.filterMap_cons, List.filterMap_cons, e, ih fun k hk => h k (List.mem_cons_of_mem _ hk)]
    exact go _ fun m hm => List.mem_range.mp hm
  rw [e]
  apply List.ext_getElem?
  intro i
  have key : (List.range xs.size).filterMap (fun (m : Nat) => xs[xs.size - 1 - m]?) = ((List.range xs.size).map fun m => xs.size - 1 - m).filterMap fun k => xs[k]? := by
    rw [List.filterMap_map]
    rfl
  rw [key, PySem.W.krv_range, List.filterMap_reverse, PySem.W.krv_all]
theorem getItem_tuple_rev {t sl : Addr} {items : Array Value} {vl vu vs : Value} {Q : Value → Shared → Prop} (ht : IsTup s.heap t items) (hs : s.heap.IsSliceOf sl vl vu vs) (pl : IsPart vl none) (pu : IsPart vu none) (ps : IsPart vs (some (-1)))
    (h : Q (.ref s.heap.objs.size) { s with heap := s.heap.push { cls := .type "tuple", data := .seq items.toList.reverse.toArray } }) (hsz : items.size ≤ sizeLine) : wpAny (model prog w) A (getItem (.ref t) (.ref sl)) Q E s := by
  have htake : sizeOk (.seq items.toList.reverse.toArray) := by
    show items.toList.reverse.toArray.size ≤ sizeLine
    rw [List.size_toArray, List.length_reverse, Array.length_toList]
    exact hsz
  obtain ⟨os, hos, hcs, hds⟩ := id hs
  have hTs : s.TypeIs (.ref sl) "slice" := ⟨os, hos, hcs⟩
  unfold getItem
  try with_reducible refine wpAny_holding ?_
  first | refine wpAny_bind (wpAny_pure ?_) | skip
  refine wpAny_bind (wpAny_sequenceKey ht.typeIs (by decide) ?_)
  refine wpAny_bind (wpAny_callSpecial?_slot (name := Str.ofString "__getitem__") ht.typeIs PyProof.Rows.slot_tuple_getitem
    (wpAny_call_entry PyProof.Rows.slot_tuple_getitem ht.typeIs entry_tuple_getitem ?_ (args_tuple_getitem _ _)))
  show wpAny _ _ (Builtin.Tuple.tupleItemsOf (.ref t) >>= _) _ _ s
  refine wpAny_bind (tupleItemsOf_ ht ?_)
  refine wpAny_bind (wpAny_typeOf hTs ?_)
  rw [if_pos (by decide)]
  refine wpAny_bind (sliceApplied_rev hs pl pu ps ?_)
  have hno : ¬ ((((items.size : Int) - 1) == 0 && (-1 : Int) == 1 && items.size == items.size) = true) := by simp
  show wpAny _ _ (if (((items.size : Int) - 1) == 0 && (-1 : Int) == 1 && items.size == items.size) = true then _ else _) _ _ s
  rw [if_neg hno, pick_rev]
  first
    | exact wpAny_bind (m := Builtin.Tuple.tupleExact _) (wpAny_newObj_type (wpAny_pure ⟨_, rfl, wpAny_pure h⟩) htake)
    | exact wpAny_bind (m := Builtin.Tuple.tupleExact _) (wpAny_newObj_type (wpAny_bind (wpAny_pure (wpAny_pure ⟨_, rfl, wpAny_pure h⟩))) htake)
    | exact wpAny_bind (wpAny_bind (m := Builtin.Tuple.tupleExact _) (wpAny_newObj_type (wpAny_pure (wpAny_pure ⟨_, rfl, wpAny_pure h⟩)) htake))
    | exact wpAny_bind (wpAny_bind (m := Builtin.Tuple.tupleExact _) (wpAny_newObj_type (wpAny_pure ⟨_, rfl, wpAny_pure h⟩) htake))
end
section
variable {X : Cx}
def tRevA (K : PySem.W.Frag) (te : TE) : TE := fun σ H Q => te σ H fun x H1 => ∃ a xs, x = .ref a ∧ ((SqL K H1 a xs ∧ ∀ p, H1 p = none → Q (.ref p) (upd H1 p (.lst xs.reverse))) ∨ (SqT K H1 a xs ∧ ∀ p, H1 p = none → Q (.ref p) (upd H1 p (.tup xs.reverse))))
theorem pe_revA {e : Expr} {te : TE} {k : Nat} {p1 p2 p3 pos : Pos} (he : PE X e te) : PE X (.Subscript e (.Slice none none (some (.UnaryOp .USub (.Constant (.int 1) k p1) p2)) p3) pos) (tRevA X.K te) := by
  refine ⟨fun pins s σ H Q I h => ?_⟩
  refine Subscript_ (thn (he.run pins s σ H _ I h) fun v s1 ⟨x, H1, I1, r1, q1⟩ => ?_)
  obtain ⟨a, xs, ex, hx⟩ := q1
  subst ex
  cases r1
  have hst : PO X (some (.UnaryOp .USub (.Constant (.int 1) k p1) p2)) (tPart (tUn (rU fun i => .int (-i)) (tC (.int 1)))) := po_some (pe_un un_neg pe_int)
  refine wpAny_Slice (thn (po_none.run pins s1 σ H1 (fun o H2 => o = none ∧ H2 = H1) I1 ⟨rfl, rfl⟩) fun vl s2 ⟨l, H2, I2, pl, el, e2⟩ => ?_)
  subst el e2
  refine thn (po_none.run pins s2 σ H2 (fun o H3 => o = none ∧ H3 = H2) I2 ⟨rfl, rfl⟩) fun vu s3 ⟨u, H3, I3, pu, eu, e3⟩ => ?_
  subst eu e3
  refine thn (hst.run pins s3 σ H3 (fun o H4 => o = some (-1) ∧ H4 = H3) I3 ⟨1, rfl, -1, rfl, rfl, rfl⟩) fun vs s4 ⟨o, H4, I4, ps, eo, e4⟩ => ?_
  subst eo e4
  have I5 : Inv X pins σ H4 { s4 with heap := s4.heap.push { cls := .type "slice", data := .fields #[vl, vu, vs] } } := I4.kept (t' := s4.toks) fun b ob q => Heap.get?_push_of_some _ q
  show wpAny (model X.prog X.w) X.A (subscriptTail e (.Slice none none (some (.UnaryOp .USub (.Constant (.int 1) k p1) p2)) p3) (.ref a) (.ref s4.heap.objs.size)) (EP X pins σ Q) X.xe { s4 with heap := s4.heap.push { cls := .type "slice", data := .fields #[vl, vu, vs] } }
  rcases hx with ⟨hx, q⟩ | ⟨hx, q⟩
  · obtain ⟨its, r, ht, hz⟩ := I5.list hx
    have hlen := r.length
    refine tail_any (ops := [.ref a, .ref s4.heap.objs.size]) ht.isList.typeIs (PySem.slot_list_getitem.lookup) ?_ (by with_unfolding_all rfl)
    refine wpAny_getItem_list_slice ht.isList (Heap.IsSliceOf.new _ vl vu vs) pl pu ps (by decide) ?_ (by rw [List.size_toArray]; omega)
    rw [PySem.W.krv_pick]
    refine ⟨.ref _, _, I5.laid (t' := s4.toks) (o := .lst xs.reverse) (fun b ob q => Heap.get?_push_of_some _ q) (Nat.le_refl _) ?_, rfl, q _ (I5.hok.fresh (Nat.le_refl _))⟩
    exact ⟨by rw [List.length_reverse]; exact hz, _, 0, r.reverse, Heap.get?_push_size _ rfl⟩
  · obtain ⟨its, r, ht, hz⟩ := I5.tuple hx
    have hlen := r.length
    refine tail_any (ops := [.ref a, .ref s4.heap.objs.size]) ht.typeIs (PyProof.Rows.slot_tuple_getitem.lookup) ?_ (by with_unfolding_all rfl)
    refine getItem_tuple_rev ht (Heap.IsSliceOf.new _ vl vu vs) pl pu ps ?_ (by rw [List.size_toArray]; omega)
    refine ⟨.ref _, _, I5.laid (t' := s4.toks) (o := .tup xs.reverse) (fun b ob q => Heap.get?_push_of_some _ q) (Nat.le_refl _) ?_, rfl, q _ (I5.hok.fresh (Nat.le_refl _))⟩
    exact ⟨by rw [List.length_reverse]; exact hz, _, r.reverse, IsTup.new _ _⟩
end
def dRev : D → Option RV
  | .list xs => some (.own (.list xs.reverse))
  | .tuple xs => some (.dat (.tuple xs.reverse))
  | _ => none
section
variable [Tab] [Zok] {X : Cx} {W : WX}
theorem q_rev {e : Expr} {m : ME} {k : Nat} {p1 p2 p3 pos : Pos} (he : QE X W e m) : QE X W (.Subscript e (.Slice none none (some (.UnaryOp .USub (.Constant (.int 1) k p1) p2)) p3) pos) (m1 m dRev) := by
  refine PE.of (pe_revA he) fun σ H Q hq => ?_
  obtain ⟨Z, F, ρ, S, k⟩ := hq
  refine ⟨Z, F, ρ, S, Post.bind k fun x ρ1 H1 F1 e1 S1 st1 k1 v1 vo1 nw1 => ?_⟩
  cases g1 : x.get ρ1 with
  | none => rw [g1] at k1; exact k1.elim
  | some d =>
    rw [g1] at k1
    have tx := vo1.top S1 g1
    cases d with
    | list xs =>
      obtain ⟨a, ys, rfl, ra, za, pa⟩ := tx.list
      exact ⟨a, ys, rfl, .inl ⟨.inl ra, Post.lst k1 S1 pa.reverse (by rw [List.length_reverse]; exact za) st1.dom⟩⟩
    | tuple xs =>
      obtain ⟨a, ys, rfl, ra, za, pa, _⟩ := tx.tuple
      exact ⟨a, ys, rfl, .inr ⟨ra, Post.tup k1 S1 pa.reverse (by rw [List.length_reverse]; exact za)⟩⟩
    | _ => exact k1.elim
end
/-! ### sum -/
theorem sum_tuple_ints {prog : Program} {w : World} {A : Around} {E : Value → Shared → Prop} {s : Shared} {l : Addr} {its : List Value} {ns : List Int} {Q : Value → Shared → Prop} (hh : A.handled = none) (hl : s.heap.IsTuple l its.toArray) (hi : IntsAre its ns)
    (h : ∀ h' tk t', (∀ b o, s.heap.get? b = some o → h'.get? b = some o) → Q (.int ns.sum t') { s with heap := h', toks := tk }) : wpAny (model prog w) A (call (.builtin "sum") [.ref l]) Q E s := by
  obtain ⟨xs, e⟩ := hi.allInts.items
  have hn : numsOf (intItems xs).toList = ns := by rw [← e]; exact hi.numsOf
  rw [nums_intItems] at hn
  rw [e] at hl
  refine PySem.call_sum_walkAnyS (PySem.W.iter_tupleW (A := A.in1) hh hl fun s₂ e2 W st hfp hw hk => ⟨_, _, _, _, _, _, _, numAt xs, rfl, W, st, hfp, fun i v hv => ?_, fun s' t' m => ?_⟩)
  · exact intItems_at hv
  · obtain ⟨h', tk, rfl, hk'⟩ := PySem.W.moved_old e2 rfl m
    have := h h' tk t' hk'
    rw [preSum_eq, List.take_of_length_le (by simp [intItems]), hn]
    exact this
theorem cr_sumT {X : Cx} (hc : X.calm = true) : CallR X (.builtin "sum") (fun vs H Q => ∃ (a : Addr) (ns : List Int), vs = [V.ref a] ∧ SqT X.K H a (ns.map V.int) ∧ Q (.int ns.sum) H) := by
  intro pins s σ H vs us Q I r h
  obtain ⟨a, ns, rfl, hs, q⟩ := h
  obtain ⟨its, rv, hl, _⟩ := I.tuple hs
  rw [Vals.ref1 r]
  exact sum_tuple_ints (I.ok.hd hc) (show s.heap.IsTuple a its.toArray from hl) rv.ints fun h' tk t' hk => ⟨.int _, H, I.kept hk, ⟨_, rfl⟩, q⟩
def intsD : List D → Option (List Int)
  | [] => some []
  | .int i :: r => (intsD r).map (i :: ·)
  | _ => none
theorem intsD_of : ∀ {ds : List D} {ns : List Int}, intsD ds = some ns → ds = ns.map PyData.int
  | [], _, h => by cases h; rfl
  | d :: r, ns, h => by
    cases d with
    | int i =>
      unfold intsD at h
      cases q : intsD r with
      | none => rw [q] at h; cases h
      | some ms => rw [q] at h; cases h; rw [intsD_of q]; rfl
    | _ => cases h
theorem intsD_map : ∀ ns : List Int, intsD (ns.map PyData.int) = some ns
  | [] => rfl
  | n :: r => by
    show (intsD (r.map PyData.int)).map (n :: ·) = _
    rw [intsD_map r]; rfl
def dSum : D → Option RV
  | .list xs => (intsD xs).map fun ns => .dat (.int ns.sum)
  | .tuple xs => (intsD xs).map fun ns => .dat (.int ns.sum)
  | _ => none
section
variable [Tab] [Zok] {X : Cx} {W : WX}
theorem cs_sum (hc : X.calm = true) : CallS X (.builtin "sum") (on1 dSum) := by
  refine ⟨_, CallR.or (cr_sum hc) (cr_sumT hc), sv1 ?_⟩
  intro W Z F ρ σ H H0 x d rv Q S hd tx hf k
  cases d with
  | list xs =>
    obtain ⟨a, ys, rfl, ra, za, pa⟩ := tx.list
    cases q : intsD xs with
    | none => simp [dSum, q] at hf
    | some ns =>
      simp only [dSum, q] at hf
      cases hf
      rw [intsD_of q] at pa
      exact .inl ⟨a, ns, rfl, by rw [← pa.ints]; exact .inl ra, k.dat S (.int _)⟩
  | tuple xs =>
    obtain ⟨a, ys, rfl, ra, za, pa, _⟩ := tx.tuple
    cases q : intsD xs with
    | none => simp [dSum, q] at hf
    | some ns =>
      simp only [dSum, q] at hf
      cases hf
      rw [intsD_of q] at pa
      exact .inr ⟨a, ns, rfl, by rw [← pa.ints]; exact ra, k.dat S (.int _)⟩
  | _ => cases hf
end
end PD

namespace PD
open PySem PySem.Spec PyProof.Rows L2
/-! ### xs.count(e), xs.index(e) -/
section
variable [Tab] {X : Cx}
omit [Tab] in
def rCntP (X : Cx) : V → List V → Hp → VK → Prop := fun x xs H Q => ∃ (a : Addr) (y : V) (d : D) (ds : List D), x = V.ref a ∧ xs = [y] ∧ Dp X.K H (V.ref a) (.list ds) ∧ Dp X.K H y d ∧ inOk d ds = true ∧ Q (.int ((ds.countP fun z => PyData.eqv z d : Nat) : Int)) H
theorem mt_countP (hu : X.A.units + 64 < cLine) : MtR X "list.count" (rCntP X) := by
  intro pins s σ H x xs v us Q I rx rxs h
  obtain ⟨a, y, d, ds, rfl, rfl, hl, hy, ok, q⟩ := h
  cases rx
  obtain ⟨uy, rfl, ry⟩ := rxs.one
  obtain ⟨h1, h2, h3⟩ := inOk_of ok
  obtain ⟨bs, r1⟩ := Dp.reads I d y uy hy ry
  cases hl with
  | lst hs ha =>
    obtain ⟨its, rv, p, hlen⟩ := I.list hs
    obtain ⟨as, h4⟩ := Dp.readsAll I ds _ its ha rv
    exact PySem.SeqAt.count_list_data p.isList (show ReadsAll s.heap its.toArray.toList ds as from h4) r1 h2 h1 (by omega) ⟨.int _, H, I.tok _, ⟨_, rfl⟩, q⟩
omit [Tab] in
def rIdxP (X : Cx) : V → List V → Hp → VK → Prop := fun x xs H Q => ∃ (a : Addr) (y : V) (d : D) (ds : List D) (j : Nat), x = V.ref a ∧ xs = [y] ∧ Dp X.K H (V.ref a) (.list ds) ∧ Dp X.K H y d ∧ inOk d ds = true ∧ PySem.SeqAt.dataPlace ds d = some j ∧ Q (.int (j : Nat)) H
theorem mt_indexP (hu : X.A.units + 64 < cLine) : MtR X "list.index" (rIdxP X) := by
  intro pins s σ H x xs v us Q I rx rxs h
  obtain ⟨a, y, d, ds, j, rfl, rfl, hl, hy, ok, hp, q⟩ := h
  cases rx
  obtain ⟨uy, rfl, ry⟩ := rxs.one
  obtain ⟨h1, h2, h3⟩ := inOk_of ok
  obtain ⟨bs, r1⟩ := Dp.reads I d y uy hy ry
  cases hl with
  | lst hs ha =>
    obtain ⟨its, rv, ⟨⟨cls, dd, data, sls⟩, n, ho, hc, hdn, hdt⟩, hlen⟩ := I.list hs
    simp only at hc hdt
    subst hc hdt
    obtain ⟨as, h4⟩ := Dp.readsAll I ds _ its ha rv
    have h4' : ReadsAll s.heap its.toArray.toList ds as := h4
    obtain ⟨hj, hit, hno⟩ := PySem.SeqAt.hit_at h4' h2 hp
    have hvl := rv.length
    have hsl : (sizeLine : Nat) = 16777216 := sizeLine_eq
    have hj2 : j < its.length := by simpa using hj
    exact call_meets PySem.F.slot_list_index ⟨_, ho, rfl⟩ PySem.F.entry_list_index (PySem.F.args_list_index_2 _ _)
      (SeqAt.list_indexAt a its.toArray n dd sls uy _ j hj (by omega) hit hno) ⟨ho, PySem.SeqAt.items_plain h4' r1 h2 h1 (by omega), ⟨.int (j : Nat), H, I.tok _, ⟨_, rfl⟩, q⟩⟩
end
def dCount : D → D → Option RV
  | .list ds, d => if inOk d ds then some (.dat (.int ((ds.countP fun z => PyData.eqv z d : Nat) : Int))) else none
  | _, _ => none
def dIndex : D → D → Option RV
  | .list ds, d => if inOk d ds then (PySem.SeqAt.dataPlace ds d).map fun j => .dat (.int (j : Nat)) else none
  | _, _ => none
/-- o.name(a): a list's -/
def mMth (o : ME) (a : MEs) (f : D → D → Option RV) : ME := fun ρ => (o ρ).bind fun x ρ1 => match x.get ρ1 with
  | some (.list _) => (a ρ1).bind fun ys ρ2 => match ys with
    | [y] => match x.get ρ2, y.get ρ2 with
      | some d, some e => match f d e with
        | some r => .ok r ρ2
        | none => .no
      | _, _ => .no
    | _ => .no
  | _ => .no
section
variable [Tab] [Zok] {X : Cx} {W : WX}
theorem Top.sqL {K : PySem.W.Frag} {F : Forb} {H : Hp} {v : V} {ds : List D} (t : Top K F H v (.list ds)) : ∃ a xs, v = .ref a ∧ SqL K H a xs := by
  obtain ⟨a, ys, rfl, ra, _, _⟩ := t.list
  exact ⟨a, ys, rfl, .inl ra⟩
theorem q_mth {name : Str} {id : String} {r : V → List V → Hp → VK → Prop} {f : D → D → Option RV} {o : Expr} {mo : ME} {e : Expr} {es : List Expr} {m : MEs} {apos pos : Pos} (slot : Slot "list" name id) (hty : typeOf (.builtin id) = pure (.type "method_descriptor")) (hm : MtR X id r)
    (sv : ∀ (F : Forb) (H : Hp) (x y : V) (d e : D) (rv : RV) (Q : VK), Top X.K F H x d → Top X.K F H y e → f d e = some rv → (∀ v, (∀ (F : Forb) (H : Hp), ∃ d', rv = .dat d' ∧ Rep X.K F H v d') → Q v H) → r x [y] H Q) (ho : QE X W o mo) (ha : QA X W (e :: es) m)
    (hbase : attributeBase o name X.env (eval o X.env) = eval o X.env := by rfl)
    (hfew : ((backTo pos (starEach (e :: es) X.env)).all (fun x => !x.1) && (backToKw pos (keywordEach [] X.env)).all (fun x => x.1.isSome)
      && decide ((e :: es).length + ([] : List Keyword).length + (if ([] : List Keyword).isEmpty then 0 else 1) < 30)) = true := by rfl)
    (hline : (apos.endLine == pos.line) = true := by rfl) (hs : starEach (e :: es) X.env = (false, eval e X.env) :: starEach es X.env := by rfl) (hplain : (backTo pos (starEach es X.env)).any (·.1) = false := by rfl) :
    QE X W (.Call (.Attribute o name apos) (e :: es) [] pos) (mMth mo m f) := by
  refine PE.of (pe_bm PySem.F.plainAttrs_list slot hty hm ho ha hbase hfew hline hs hplain) fun σ H Q hq => ?_
  obtain ⟨Z, F, ρ, S, k⟩ := hq
  refine ⟨Z, F, ρ, S, Post.bind k fun x ρ1 H1 F1 e1 S1 st1 k1 v1 vo1 nw1 => ?_⟩
  split at k1
  · rename_i ds0 g1
    obtain ⟨a, xs, rfl, sq⟩ := (vo1.top S1 g1).sqL
    refine ⟨.inl ⟨rfl, xs, sq⟩, Z, F1, ρ1, S1, Post.bind k1 fun ys ρ2 H2 F2 e2 S2 st2 k2 vs vo2 nw2 => ?_⟩
    match ys, k2, vo2 with
    | [], k2, _ => exact k2.elim
    | _ :: _ :: _, k2, _ => exact k2.elim
    | [y], k2, vo3 =>
      cases vo3 with
      | cons vo4 vn =>
        cases vn
        have vo1' := vo1.step st2
        dsimp only at k2
        cases g2 : x.get ρ2 with
        | none => rw [g2] at k2; exact k2.elim
        | some d =>
          cases g3 : y.get ρ2 with
          | none => rw [g2, g3] at k2; exact k2.elim
          | some e' =>
            cases g4 : f d e' with
            | none => rw [g2, g3] at k2; simp only [g4] at k2; exact k2.elim
            | some rv =>
              rw [g2, g3] at k2
              simp only [g4] at k2
              refine sv F2 H2 _ _ d e' rv Q (vo1'.top S2 g2) (vo4.top S2 g3) g4 fun v hv => ?_
              obtain ⟨d', rfl, rp⟩ := hv F2 H2
              exact k2 H2 F2 S2 .refl v rp trivial
  · exact k1.elim
theorem q_count {o : Expr} {mo : ME} {e : Expr} {es : List Expr} {m : MEs} {apos pos : Pos} (hu : X.A.units + 64 < cLine) (ho : QE X W o mo) (ha : QA X W (e :: es) m)
    (hbase : attributeBase o "count" X.env (eval o X.env) = eval o X.env := by rfl)
    (hfew : ((backTo pos (starEach (e :: es) X.env)).all (fun x => !x.1) && (backToKw pos (keywordEach [] X.env)).all (fun x => x.1.isSome)
      && decide ((e :: es).length + ([] : List Keyword).length + (if ([] : List Keyword).isEmpty then 0 else 1) < 30)) = true := by rfl)
    (hline : (apos.endLine == pos.line) = true := by rfl) (hs : starEach (e :: es) X.env = (false, eval e X.env) :: starEach es X.env := by rfl) (hplain : (backTo pos (starEach es X.env)).any (·.1) = false := by rfl) :
    QE X W (.Call (.Attribute o "count" apos) (e :: es) [] pos) (mMth mo m dCount) :=
  q_mth PySem.F.slot_list_count PySem.F.type_list_count (mt_countP hu) (fun F H x y d e rv Q tx ty hf k => by
    cases d with
    | list ds =>
      unfold dCount at hf
      dsimp only at hf
      split at hf
      · rename_i h
        cases hf
        obtain ⟨a, ys, rfl, ra, _, _⟩ := tx.list
        exact ⟨a, y, e, ds, rfl, rfl, tx.dp (by simpa only [PyData.plain] using (inOk_of h).2.1), ty.dp (inOk_of h).1, h, k _ fun F H => ⟨_, rfl, .int _⟩⟩
      · cases hf
    | _ => cases hf) ho ha hbase hfew hline hs hplain
theorem q_index {o : Expr} {mo : ME} {e : Expr} {es : List Expr} {m : MEs} {apos pos : Pos} (hu : X.A.units + 64 < cLine) (ho : QE X W o mo) (ha : QA X W (e :: es) m)
    (hbase : attributeBase o "index" X.env (eval o X.env) = eval o X.env := by rfl)
    (hfew : ((backTo pos (starEach (e :: es) X.env)).all (fun x => !x.1) && (backToKw pos (keywordEach [] X.env)).all (fun x => x.1.isSome)
      && decide ((e :: es).length + ([] : List Keyword).length + (if ([] : List Keyword).isEmpty then 0 else 1) < 30)) = true := by rfl)
    (hline : (apos.endLine == pos.line) = true := by rfl) (hs : starEach (e :: es) X.env = (false, eval e X.env) :: starEach es X.env := by rfl) (hplain : (backTo pos (starEach es X.env)).any (·.1) = false := by rfl) :
    QE X W (.Call (.Attribute o "index" apos) (e :: es) [] pos) (mMth mo m dIndex) :=
  q_mth PySem.F.slot_list_index PySem.F.type_list_index (mt_indexP hu) (fun F H x y d e rv Q tx ty hf k => by
    cases d with
    | list ds =>
      unfold dIndex at hf
      dsimp only at hf
      split at hf
      · rename_i h
        cases hp : PySem.SeqAt.dataPlace ds e with
        | none => rw [hp] at hf; cases hf
        | some j =>
          rw [hp] at hf
          cases hf
          obtain ⟨a, ys, rfl, ra, _, _⟩ := tx.list
          exact ⟨a, y, e, ds, j, rfl, rfl, tx.dp (by simpa only [PyData.plain] using (inOk_of h).2.1), ty.dp (inOk_of h).1, h, hp, k _ fun F H => ⟨_, rfl, .int _⟩⟩
      · cases hf
    | _ => cases hf) ho ha hbase hfew hline hs hplain
/-- a module's int, text .. -/
theorem q_glob {x : Str} {v : V} {u : Value} {d : D} {pos : Pos} (hg : Gl X x) (hm : X.mg x = some u) (r : RelV v u) (rd : ∀ F H, Rep X.K F H v d) (hd : (x == ("__debug__" : Str)) = false := by decide) : QE X W (.Name x pos) (mC d) := q_c (pe_glob hg hm r hd) rd
theorem q_globI {x : Str} {i : Int} {t : Tok} {pos : Pos} (hg : Gl X x) (hm : X.mg x = some (.int i t)) (hd : (x == ("__debug__" : Str)) = false := by decide) : QE X W (.Name x pos) (mC (.int i)) := q_glob hg hm (v := .int i) ⟨t, rfl⟩ (fun _ _ => .int i) hd
end
/-! ### {k: v}, k an int or a text -/
def keyOf : D → Option Key
  | .int i => some (.inl i)
  | .str x => some (.inr x)
  | _ => none
/-- one pair: data, not changed later -/
def mDict1 (k v : ME) : ME := fun ρ => (k ρ).bind fun x ρ1 => (v ρ1).bind fun y ρ2 => match x, frz [y] with
  | .dat kd, some [d] => match keyOf kd with
    | some _ => .ok (.dat (.dict [(kd, d)])) ρ2
    | none => .no
  | _, _ => .no
section
variable [Tab] [Zok] {X : Cx} {W : WX}
theorem merge_one (k : Key) (v : V) : mergeK [] [(k, v)] = [(k, v)] := by rfl
theorem Post.bindAt {α β : Type} {Z : Zone} {σ : St} {F F1 : Forb} {ρ ρ1 : Env} {H H1 : Hp} {G : α → Env → Forb → Hp → Prop} {G' : β → Env → Forb → Hp → Prop} {o : Out α} {f : α → Env → Out β} (p : Post X W Z σ F ρ H G' (o.bind f)) (s : Step σ F F1 ρ ρ1 H H1)
    (h : ∀ a ρ2 H2 F2, o = .ok a ρ2 → SR X.K Z F2 ρ2 σ H2 → Step σ F1 F2 ρ1 ρ2 H1 H2 → Post X W Z σ F ρ H G' (f a ρ2) → G a ρ2 F2 H2) : Post X W Z σ F1 ρ1 H1 G o := by
  cases o with
  | ok a ρ2 => exact fun H2 F2 S st => h a ρ2 H2 F2 rfl S st p
  | exc e ρ' => exact fun cls d H' F' S st eo => p cls d H' F' S (s.trans st) eo
  | no => exact p
theorem q_dict1 {ke ve : Expr} {mk mv : ME} {pos : Pos} (hk : QE X W ke mk) (hv : QE X W ve mv) : QE X W (.Dict [some ke] [ve] pos) (mDict1 mk mv) := by
  refine PE.of (pe_disp (pps_cons hk hv pps_nil) rfl rfl (by simp) (by simp)) fun σ H Q hq => ?_
  obtain ⟨Z, F, ρ, S, k⟩ := hq
  intro p np
  obtain ⟨S0, st0⟩ := S.newOwn (o := .dK []) np trivial
  have no := S.noown np
  refine ⟨Z, _, ρ, S0, Post.bindAt k st0 fun x ρ1 H1 F1 e1 S1 st1 k1 v1 vo1 nw1 => ⟨Z, F1, ρ1, S1, Post.bindAt k1 (st0.trans st1) fun y ρ2 H2 F2 e2 S2 st2 k2 v2 vo2 nw2 => ?_⟩⟩
  split at k2
  · rename_i kd d g
    have fp : (fun a => F a ∨ a = p) p := .inr rfl
    have st : Step σ (fun a => F a ∨ a = p) F2 ρ ρ2 (upd H p (.dK [])) H2 := st1.trans st2
    have hp2 : H2 p = some (.dK []) := (st.tm p fp no.2.2).trans upd_same
    have fp2 : F2 p := by
      rcases st.kp p fp with z | ⟨i, z, _⟩
      · exact z
      · exact absurd z (no.2.2 i)
    cases gk : keyOf kd with
    | none => rw [gk] at k2; exact k2.elim
    | some key =>
      rw [gk] at k2
      have ev : v1 = kV key := by
        have r1 : Rep X.K F1 H1 v1 kd := vo1
        cases kd with
        | int i => cases gk; cases r1; rfl
        | str x => cases gk; cases r1; rfl
        | _ => cases gk
      have ed : kd = kD key := by
        cases kd with
        | int i => cases gk; rfl
        | str x => cases gk; rfl
        | _ => cases gk
      refine ⟨hp2, [(key, v2)], by rw [ev]; rfl, by simp, ?_⟩
      rw [merge_one]
      -- what was new is let go, the dict too
      obtain ⟨F3, S3, rp, l1, l2⟩ := give (H := upd H p (.dK [])) S2 vo2 (nw2.back st1.dom) (frz1 g)
      have fp3 : F3 p := (l2 p fp2).resolve_right (by rw [upd_same]; exact fun z => nomatch z)
      have no3 : ∀ i, ¬ OwnAt ρ2 σ i p := fun i o => no.2.2 i (st.ow i p o)
      have hz : ¬ Z.F p → Z.H p = none := fun _ => by
        cases q : Z.H p with
        | none => rfl
        | some o => exact absurd np (S.dom p (nn q))
      have S4 := S3.poke (o := .dK [(key, v2)]) fp3 no.2.1 no3 hz hp2 trivial trivial
      have S5 := S4.drop (q := fun a => a = p) (fun a e => by rw [e]; exact no.2.1) (fun a e i => by rw [e]; exact no3 i)
      have ST := st0.trans st
      have c3 : Car F2 F3 H2 H2 := Car.sub l1
      have step : Step σ F (fun a => F3 a ∧ ¬ a = p) ρ ρ2 H (upd H2 p (.dK [(key, v2)])) := {
        car := ⟨fun a u n t e => by rw [upd_ne (ne_of_none e np)]; exact ST.car.rd a u n t e, fun a f => ST.car.fr a (l1 a f.1), fun t => tabs_updM hp2 trivial (ST.car.tb t)⟩
        kp := fun a f => by
          rcases ST.kp a f with z | z
          · refine .inl ⟨(l2 a z).resolve_right fun e => ?_, fun e => S.al a f (by rw [e]; exact np)⟩
            have : a ≠ p := fun e => S.al a f (by rw [e]; exact np)
            rw [upd_ne this] at e
            exact S.al a f e
          · exact .inr z
        tm := fun a f n => by
          have : a ≠ p := fun e => S.al a f (by rw [e]; exact np)
          rw [upd_ne this]; exact ST.tm a f n
        ow := ST.ow
        dom := fun a h => by
          have : a ≠ p := fun e => h (by rw [e]; exact np)
          rw [upd_ne this]; exact ST.dom a h
        has := ST.has }
      have cc : Car F3 (fun a => F3 a ∧ ¬ a = p) H2 (upd H2 p (.dK [(key, v2)])) := ⟨fun a u n t e => by
          have : a ≠ p := fun z => n (by rw [z]; exact fp3)
          rw [upd_ne this]; exact e, fun a f => .inl f.1, tabs_updM hp2 trivial⟩
      refine k2 _ _ S5 step (.ref p) ?_ trivial
      rw [ed]
      exact .dct (fun z => z.2 rfl) upd_same (.cons (rp.car cc) .nil)
  · exact k2.elim
end
end PD

namespace PD
open PySem PySem.Spec PyProof.Rows L2
/-! ### a list of one's own is given away -/
section
variable [Tab] [Zok] {X : Cx} {W : WX} {K : PySem.W.Frag} {Z : Zone} {σ : St} {F : Forb} {ρ : Env} {H : Hp}
theorem SR.move {i : Nat} {ds : List D} (S : SR K Z F ρ σ H) (h : ρ[i]? = some (some (.own (.list ds)))) : ∃ F' v, SR K Z F' (ρ.set i (some (.dat (.list ds)))) σ H ∧ Step σ F F' ρ (ρ.set i (some (.dat (.list ds)))) H H ∧ σ[i]? = some (some v) ∧ Rep K F' H v (.list ds) := by
  obtain ⟨v, hv, a, rfl, fa, xs, q1, q2, q3⟩ := S.slot i _ h
  have oa : OwnAt ρ σ i a := ⟨_, h, rfl, hv⟩
  have nM : ¬ Z.M a := S.notM i a oa
  have c : Car F (fun b => F b ∧ ¬ b = a) H H := Car.sub fun b f => f.1
  have rep : Rep K (fun b => F b ∧ ¬ b = a) H (.ref a) (.list ds) := .lst (fun z => z.2 rfl) q1 q2 (q3.car c)
  have hl : i < ρ.length := (List.getElem?_eq_some_iff.mp h).1
  have ow : ∀ j b, OwnAt (ρ.set i (some (.dat (.list ds)))) σ j b → j ≠ i ∧ OwnAt ρ σ j b := fun j b ⟨sv, h1, h2, h3⟩ => by
    rcases set_get h1 with ⟨_, rfl⟩ | ⟨n, h1⟩
    · cases h2
    · exact ⟨n, sv, h1, h2, h3⟩
  have ne : ∀ j b, j ≠ i → OwnAt ρ σ j b → b ≠ a := fun j b n o e => by
    subst e
    exact n (S.apart j i b o oa)
  refine ⟨fun b => F b ∧ ¬ b = a, .ref a, ⟨by simpa using S.len, fun b f => S.al b f.1, fun b m => ⟨S.m0 b m, fun e => nM (by rw [← e]; exact m)⟩, S.keepM, S.ext, S.dom, fun j sv e => ?_, fun p hp => ?_, fun j k b oj ok => S.apart j k b (ow j b oj).2 (ow k b ok).2, fun j b o => S.notM j b (ow j b o).2, fun b f => S.fz b f.1, S.tabs, fun b o f => S.fl b o f.1, S.zok, fun p hp => ?_⟩, ⟨c, fun b f => ?_, fun _ _ _ => rfl, fun j b o => (ow j b o).2, fun _ h => h, fun j hj => ?_⟩, hv, rep⟩
  · rcases set_get e with ⟨rfl, rfl⟩ | ⟨n, e⟩
    · exact ⟨_, hv, rep⟩
    · obtain ⟨w, h1, h2⟩ := S.slot j sv e
      refine ⟨w, h1, ?_⟩
      cases sv with
      | dat d => exact Rep.car c h2
      | own d => obtain ⟨b, rfl, f, o⟩ := h2; exact ⟨b, rfl, ⟨f, ne j b n ⟨_, e, rfl, h1⟩⟩, o.car c rfl⟩
      | par d => obtain ⟨b, rfl, f, o⟩ := h2; exact ⟨b, rfl, ⟨f, ne j b n ⟨_, e, rfl, h1⟩⟩, o.car c rfl⟩
      | opq o => exact ObjR.car c h2
  · obtain ⟨d, h1, h2⟩ := S.par p hp
    have n : p.1 ≠ i := fun e => by rw [e, h] at h1; cases h1
    exact ⟨d, by rw [List.getElem?_set_ne (Ne.symm n)]; exact h1, h2⟩
  · obtain ⟨⟨o, h1, h3⟩, h2⟩ := S.opq p hp
    have n : p.1 ≠ i := fun e => by rw [e, h] at h1; cases h1
    exact ⟨⟨o, by rw [List.getElem?_set_ne (Ne.symm n)]; exact h1, h3⟩, h2⟩
  · by_cases e : b = a
    · subst e
      refine .inr ⟨i, oa, fun o => (ow i b o).1 rfl⟩
    · exact .inl ⟨f, e⟩
  · unfold slotD at hj ⊢
    by_cases e : i = j
    · subst e
      rw [List.getElem?_set_self hl]
      exact fun z => nomatch z
    · rw [List.getElem?_set_ne e]; exact hj
theorem q_mv {e : Expr} {i : Nat} (h : PE X e (tVar i)) : QE X W e (mMv i) := by
  refine PE.of h fun σ H Q hq => ?_
  obtain ⟨Z, F, ρ, S, k⟩ := hq
  unfold mMv at k
  cases q : ρ[i]? with
  | none => rw [q] at k; exact k.elim
  | some o =>
    cases o with
    | none => rw [q] at k; exact k.elim
    | some sv =>
      rw [q] at k
      cases sv with
      | dat d =>
        obtain ⟨v, e1, ok⟩ := S.slot i _ q
        exact ⟨v, e1, k H F S .refl v ok trivial⟩
      | own d =>
        cases d with
        | list ds =>
          obtain ⟨F', v, S', st, e1, r⟩ := S.move q
          exact ⟨v, e1, k H F' S' st v r trivial⟩
        | _ =>
          obtain ⟨v, e1, a, _, _, o⟩ := S.slot i _ q
          exact o.elim
      | par d => exact k.elim
      | opq _ => exact k.elim
end
/-! ### defs by name -/
structure DefOk [Tab] (P : Program) (w : World) (K : PySem.W.Frag) (mg : Str → Option Value) (base : Heap) (k : Nat) (x : Str) (ps : List Str) (g : FS) : Prop where
  ex : ∃ (f : Addr) (fd : FuncData), FnOk P w K mg base (L2.CX P w) k f fd ps (SpD K mg ps.length g) ∧ mg x = some (.ref f) ∧ PySem.W.keepIn K (.ref f) = true ∧ Binds K fd ps []
theorem def_ok [Tab] {K : PySem.W.Frag} {mg : Str → Option Value} {P : Program} {w : World} {base : Heap} {x : Str} {st : Stmt} {f : Addr} {fd : FuncData} {N ps : List Str} {k : Nat} {m : MS} (Fn : Fun K x x st f fd) (hm : mg x = some (.ref f)) (hb : Binds K fd ps []) (Sc : FnScope N ps (defScope st)) (hps : ps.length ≤ N.length)
    (hbody : ∀ (cdv : Value) (A : Around) (outer : List PySem.Env) (s : Shared) (H : Hp) (E : XK), Room k (A.deeper (envOfC x (defScope st) s.heap.objs.size f cdv)) →
      Takes (cxOf (L2.CX P w) P w K mg base N x (defScope st) f cdv A outer s H E) (fun cls d _ H => E cls d H) →
      QB (cxOf (L2.CX P w) P w K mg base N x (defScope st) f cdv A outer s H E) (fun cls d _ H => E cls d H) (defBody st) m) : DefOk P w K mg base (k + 1) x ps (fn N.length m) :=
  ⟨f, fd, ok_def Fn Sc hps hbody, hm, Fn.kp, hb⟩
section
variable [Tab] [Zok] {X : Cx} {W : WX}
theorem q_callD {x : Str} {ps : List Str} {k j n : Nat} {g : FS} {p pos : Pos} {e : Expr} {es : List Expr} {m : MEs} (Df : DefOk X.prog X.w X.K X.mg X.base k x ps g) (hr : Room j X.A) (hkj : k ≤ j) (hg : Gl X x) (tk : Takes X W) (ha : QA X W (e :: es) m) (hn : ps.length = n := by rfl)
    (hdb : (x == ("__debug__" : Str)) = false := by decide) (he : starEach (e :: es) X.env = (false, eval e X.env) :: starEach es X.env := by rfl) (hpl : (backTo pos (starEach es X.env)).any (·.1) = false := by rfl) :
    QE X W (.Call (.Name x p) (e :: es) [] pos) (mCall n g m) := by
  obtain ⟨f, fd, F1, hm, hk, hb⟩ := Df.ex
  subst hn
  exact q_call F1 (hr.mono hkj) hg hm hk hb tk ha hdb he hpl
end
/-! ### own errors by name -/
structure ErrOk (P : Program) (w : World) (K : PySem.W.Frag) (mg : Str → Option Value) (base : Heap) (x : Str) : Prop where
  ex : ∃ (C fI : Addr) (fd : FuncData), OexC K C ∧ PySem.W.findIn K (.ref C) "__init__" = some (some (.ref fI)) ∧ PySem.W.typeIn K (.ref fI) = some (.type "function") ∧ FnOk P w K mg base C8.CX0 1 fI fd ["self"] (spIni K) ∧ Binds K fd ["self"] [] ∧ mg x = some (.ref C)
theorem qs_raiseD [Tab] [Zok] {X : Cx} {W : WX} {x : Str} {j : Nat} {p pos pos2 : Pos} (Er : ErrOk X.prog X.w X.K X.mg X.base x) (hr : Room j X.A) (hj : 2 ≤ j) (hc : X.calm = true) (tk : Takes X W) (hg : Gl X x) (hdb : (x == ("__debug__" : Str)) = false := by decide) :
    QS X W (.Raise (some (.Call (.Name x p) [] [] pos)) none pos2) (sRaise x) := by
  obtain ⟨C, fI, fd, T, iC, tI, F1, hb, hm⟩ := Er.ex
  exact qs_raise hc tk hm (pmk_oex0 T iC tI F1 (hr.mono hj) hb C8.pass0 hg hm hdb)
/-- LandError.__init__ -/
theorem ini_ok {P : Program} {w : World} {K : PySem.W.Frag} {mg : Str → Option Value} {base : Heap} {q : Str} {st : Stmt} {f : Addr} {fd : FuncData} (Fn : Fun K "__init__" q st f fd) (Sc : FnScope ["self"] ["self"] (defScope st))
    (hps : ∀ (cdv : Value) (A : Around) (outer : List PySem.Env) (s : Shared) (H : Hp), ∃ t, PSs (cxOf CX0 P w K mg base ["self"] q (defScope st) f cdv A outer s H E0).nox (defBody st) t ∧ ∀ D σ H, tVeI K (tCons (tVar 0) tNil) σ H (fun _ H' => D.nx σ H') → t D σ H) : FnOk P w K mg base C8.CX0 1 f fd ["self"] (spIni K) := by
  refine Fn.ok Sc (fun vs H Q E h => ?_) (fun cdv A outer s H vs Q E hr h => ?_)
  · obtain ⟨a, C, rfl, _⟩ := h; rfl
  · obtain ⟨t, h1, h2⟩ := hps cdv A outer s H
    refine ⟨t, h1, h2 _ _ _ ?_⟩
    obtain ⟨a, C, rfl, T, ea, q⟩ := h
    exact ⟨.ref a, rfl, a, C, [], rfl, by simp, T, ea, q⟩
end PD

namespace PD
open PySem PySem.Spec PyProof.Rows L2
/-! ### a def whose code object is known -/
structure FunC (K : PySem.W.Frag) (x : Str) (st : Stmt) (f : Addr) (fd : FuncData) (c : Addr) : Prop where
  ex : ∃ (oc : Value) (od : Option Addr) (kV doc pm : Value) (an : Option Addr) (ct : Value) (osl : Array (Option Value)),
    fd = PySem.W.fnOf x x (defArgs st) (defBody st) (defScope st) .none kV doc pm an (.ref c) ct ∧ K.lookup f = some ⟨oc, od, .func fd, osl⟩ ∧ PySem.W.codeIn K (.ref c) x = true
  kp : PySem.W.keepIn K (.ref f) = true
theorem FunC.toFun {K : PySem.W.Frag} {x : Str} {st : Stmt} {f c : Addr} {fd : FuncData} (F : FunC K x st f fd c) : Fun K x x st f fd := by
  obtain ⟨oc, od, kV, doc, pm, an, ct, osl, h1, h2, h3⟩ := F.ex
  exact ⟨⟨oc, od, kV, doc, pm, an, _, ct, osl, h1, h2, h3⟩, F.kp⟩
theorem funC_mk {x : Str} {K : PySem.W.Frag} {st : Stmt} {f c : Addr} {oc : Value} {od an : Option Addr} {osl : Array (Option Value)} {kV doc pm ct : Value} (l : K.lookup f = some ⟨oc, od, .func (PySem.W.fnOf x x (defArgs st) (defBody st) (defScope st) .none kV doc pm an (.ref c) ct), osl⟩)
    (cc : PySem.W.codeIn K (.ref c) x = true) (k : PySem.W.keepIn K (.ref f) = true) : FunC K x st f (PySem.W.fnOf x x (defArgs st) (defBody st) (defScope st) .none kV doc pm an (.ref c) ct) c := ⟨⟨oc, od, kV, doc, pm, an, ct, osl, rfl, l, cc⟩, k⟩
theorem ok_defC [Tab] {K : PySem.W.Frag} {mg : Str → Option Value} {P : Program} {w : World} {base : Heap} {x : Str} {st : Stmt} {f c : Addr} {fd : FuncData} {N ps : List Str} {k : Nat} {m : MS} (Fn : FunC K x st f fd c) (Sc : FnScope N ps (defScope st)) (hps : ps.length ≤ N.length)
    (hbody : ∀ (A : Around) (outer : List PySem.Env) (s : Shared) (H : Hp) (E : XK), Room k (A.deeper (envOfC x (defScope st) s.heap.objs.size f (.ref c))) →
      Takes (cxOf (L2.CX P w) P w K mg base N x (defScope st) f (.ref c) A outer s H E) (fun cls d _ H => E cls d H) →
      QB (cxOf (L2.CX P w) P w K mg base N x (defScope st) f (.ref c) A outer s H E) (fun cls d _ H => E cls d H) (defBody st) m) : FnOk P w K mg base (L2.CX P w) (k + 1) f fd ps (SpD K mg ps.length (fn N.length m)) := by
  obtain ⟨oc, od, kV, doc, pm, an, ct, osl, rfl, lk, hcd⟩ := Fn.ex
  refine fn_of lk hcd Sc (fun vs H Q E h => h.1) fun A outer s H vs Q E hr h => ?_
  obtain ⟨hl, F0, as, Ar, al, hq⟩ := h
  refine ⟨_, hbody A outer s H E hr (takes_of rfl rfl rfl rfl), zone H F0 vs as, F0, entry N.length as, start_ok Ar al (by omega) trivial, ?_⟩
  exact body_end rfl rfl Ar (by rw [← Ar.len]; omega) hq
theorem def_okC [Tab] {K : PySem.W.Frag} {mg : Str → Option Value} {P : Program} {w : World} {base : Heap} {x : Str} {st : Stmt} {f c : Addr} {fd : FuncData} {N ps : List Str} {k : Nat} {m : MS} (Fn : FunC K x st f fd c) (hm : mg x = some (.ref f)) (hb : Binds K fd ps []) (Sc : FnScope N ps (defScope st)) (hps : ps.length ≤ N.length)
    (hbody : ∀ (A : Around) (outer : List PySem.Env) (s : Shared) (H : Hp) (E : XK), Room k (A.deeper (envOfC x (defScope st) s.heap.objs.size f (.ref c))) →
      Takes (cxOf (L2.CX P w) P w K mg base N x (defScope st) f (.ref c) A outer s H E) (fun cls d _ H => E cls d H) →
      QB (cxOf (L2.CX P w) P w K mg base N x (defScope st) f (.ref c) A outer s H E) (fun cls d _ H => E cls d H) (defBody st) m) : DefOk P w K mg base (k + 1) x ps (fn N.length m) :=
  ⟨f, fd, ok_defC Fn Sc hps hbody, hm, Fn.kp, hb⟩
/-! ### the def that calls what it got, by name -/
structure ToldD [Tab] (P : Program) (w : World) (K : PySem.W.Frag) (mg : Str → Option Value) (base : Heap) (k : Nat) (Ng : List Str) (x a : Str) (mb : TR → MS) : Prop where
  ex : ∃ (st : Stmt) (g : Addr) (fd : FuncData), Fun K x x st g fd ∧ FnScope Ng [a] (defScope st) ∧ Ng[0]? = some a ∧ Vis (defScope st) a ∧ Binds K fd [a] [] ∧ mg x = some (.ref g) ∧ ToldOk P w K mg base (k + 1) Ng x st g a mb
theorem q_toldD [Tab] [Zok] {X : Cx} {W : WX} {x a : Str} {c P : Addr} {k j n : Nat} {Ng : List Str} {params : Arguments} {body : Expr} {scope : Scope} {m : ME} {mb : TR → MS} {p lpos pos : Pos} (To : ToldD X.prog X.w X.K X.mg X.base k Ng x a mb) (hg : Gl X x)
    (TB : LamX.TabB X.base X.mg c P) (hcode : X.env.code = .ref c) (hmT : (P, X.env.qual ++ "<lambda>") ∈ Tab.T) (hu : ∀ p ∈ Tab.T, p.1 = P → p.2 = X.env.qual ++ "<lambda>") (hr : Room j X.A) (hj : k + 2 ≤ j) (hn : Ng.length = n) (L : LamX.LamS X.env.scope scope) (hdef : defaultsOf params X.env = ([], []))
    (hbind : ∀ (q : Str) (cl : List (Str × Addr)) (pm cv ctv : Value), bindArgs (PySem.W.kla_fn "<lambda>" q params body scope cl pm cv ctv) ⟨[], []⟩ = pure [])
    (hbody : ∀ (A : Around) (outer : List PySem.Env) (s : Shared) (H : Hp) (E : XK) (f c' : Addr) (L' : Addr), Room k (A.deeper (LamX.lamEnv X scope L' f c')) → Takes (LamX.lamCx X A outer s H E scope f c') (fun cls d _ H => E cls d H) → @QE _ zTrue (LamX.lamCx X A outer s H E scope f c') (fun cls d _ H => E cls d H) body m)
    (hdb : (x == ("__debug__" : Str)) = false := by decide) (hd : (a == ("__debug__" : Str)) = false := by decide) (hcd : (a == ("__classdict__" : Str)) = false := by decide) :
    QE X W (.Call (.Name x p) [.Lambda params body scope lpos] [] pos) (mTold n m mb) := by
  obtain ⟨st, g, fd, F1, F2, F3, F4, F5, F6, F7⟩ := To.ex
  subst hn
  exact q_told F1 F2 F3 F4 F5 F7 hg F6 TB hcode hmT hu (hr.mono hj) L hdef hbind hbody hdb hd hcd
/-- the told def's own context, told with the space that it has -/
theorem told_mk [Tab] {P : Program} {w : World} {K : PySem.W.Frag} {mg : Str → Option Value} {base : Heap} {k : Nat} {Ng : List Str} {x a : Str} {st : Stmt} {g : Addr} {fd : FuncData} {mb : TR → MS} (F1 : Fun K x x st g fd) (F2 : FnScope Ng [a] (defScope st)) (F3 : Ng[0]? = some a) (F4 : Vis (defScope st) a) (F5 : Binds K fd [a] []) (F6 : mg x = some (.ref g))
    (F7 : ToldOk P w K mg base (k + 1) Ng x st g a mb) : ToldD P w K mg base k Ng x a mb := ⟨st, g, fd, F1, F2, F3, F4, F5, F6, F7⟩
/-! ### errors, caught -/
/-- what the written part says of the errors' classes: names, each with what isinstance answers of it -/
structure ExcTab (K : PySem.W.Frag) (mg : Str → Option Value) (top : Value) (names : List Str) : Prop where
  each : ∀ n ∈ names, ∃ D, mg n = some (.ref D) ∧ PySem.W.nsIn K mainGlobals n = some (some (.ref D)) ∧ ExcC K D ∧ PySem.W.exmOne K (.ref D) top = some true ∧ PySem.W.kitOne K (.ref D) (.type "ValueError") = some true ∧ ∀ m ∈ names, ∃ D', mg m = some (.ref D') ∧ PySem.W.kitOne K (.ref D) (.ref D') = some (decide (n = m))
/-- errors of these names, without fields, are caught -/
def caught (names : List Str) (e : Exc) : Option Bool := if e.cls ∈ names ∧ e.args = [] then some true else none
theorem caught_yes {names : List Str} {e : Exc} (h : caught names e = some true) : e.cls ∈ names ∧ e.args = [] := by
  unfold caught at h
  split at h
  · assumption
  · cases h
theorem ExcTab.catch {K : PySem.W.Frag} {mg : Str → Option Value} {top : Value} {names : List Str} (T : ExcTab K mg top names) : ∀ (e : Exc) (cls : Value) (d : Option Addr) (b : Bool), ExcIs mg e cls d → caught names e = some b → PySem.W.exmOne K cls top = some b := fun e cls d b ⟨⟨C, e1, e2⟩, _⟩ h => by
  unfold caught at h
  split at h
  · rename_i hh
    cases h
    obtain ⟨D, h1, _, _, h2, _⟩ := T.each _ hh.1
    rw [e2] at h1
    cases h1
    rw [e1]
    exact h2
  · cases h
theorem ExcTab.ns {K : PySem.W.Frag} {mg : Str → Option Value} {top : Value} {names : List Str} (T : ExcTab K mg top names) : ∀ (e : Exc) (cls : Value) (d : Option Addr), ExcIs mg e cls d → caught names e = some true → d = none ∧ ∃ C, cls = .ref C ∧ PySem.W.nsIn K mainGlobals e.cls = some (some (.ref C)) := fun e cls d ⟨⟨C, e1, e2⟩, e3⟩ h => by
  obtain ⟨h1, h2⟩ := caught_yes h
  obtain ⟨D, q1, q2, _⟩ := T.each _ h1
  rw [e2] at q1
  cases q1
  exact ⟨e3 h2, C, e1, q2⟩
/-- isinstance(x, C), x an error of one's own that is told of -/
def mIsX (names : List Str) (f : Str → Bool) (m : ME) : ME := fun ρ => (m ρ).bind fun r ρ1 => match r with
  | .thg (.exc c) => if c ∈ names then .ok (.dat (.bool (f c))) ρ1 else .no
  | _ => .no
section
variable [Tab] [Zok] {X : Cx} {W : WX}
theorem q_isX0 {names : List Str} {top : Value} {f : Str → Bool} {m : ME} {en ec : Expr} {c : V} {cv : Value} {p pos : Pos} (T : ExcTab X.K X.mg top names) (hg : Gl X "isinstance") (hm : X.mg "isinstance" = none) (he : QE X W en m) (hcl : PE X ec (tC c)) (hcv : ∀ u, RelV c u → u = cv)
    (hk : ∀ n ∈ names, ∃ D, PySem.W.nsIn X.K mainGlobals n = some (some (.ref D)) ∧ ExcC X.K D ∧ PySem.W.kitOne X.K (.ref D) cv = some (f n))
    (hs1 : starEach [en, ec] X.env = (false, eval en X.env) :: starEach [ec] X.env := by rfl) (hs2 : starEach [ec] X.env = (false, eval ec X.env) :: starEach [] X.env := by rfl) (hpl : (backTo pos (starEach [ec] X.env)).any (·.1) = false := by rfl) :
    QE X W (.Call (.Name "isinstance" p) [en, ec] [] pos) (mIsX names f m) := by
  refine PE.of (pe_callB call_isX hg hm (by first | rfl | decide +kernel) (pa_cons he (pa_cons hcl pa_nil hs2) hs1) (by decide) (by decide) hs1 hpl) fun σ H Q hq => ?_
  obtain ⟨Z, F, ρ, S, k⟩ := hq
  refine ⟨Z, F, ρ, S, Post.bind k fun r ρ1 H1 F1 e1 S1 st1 k1 v1 vo1 nw1 => ?_⟩
  cases r with
  | thg o =>
    cases o with
    | exc n =>
      dsimp only at k1
      split at k1
      · rename_i hn
        obtain ⟨a, C, oe, rfl, _, hH, zc, hf, ns⟩ := vo1
        obtain ⟨D, d1, d2, d3⟩ := hk n hn
        rw [ns] at d1
        cases d1
        exact ⟨a, C, oe, c, cv, f n, rfl, hH, zc, hf, d2, hcv, d3, k1.dat S1 (.bl _)⟩
      · exact k1.elim
    | _ => exact k1.elim
  | _ => exact k1.elim
theorem q_isX {names : List Str} {top : Value} {m : ME} {en : Expr} {n : Str} {p pos p2 : Pos} (T : ExcTab X.K X.mg top names) (hg : Gl X "isinstance") (hm : X.mg "isinstance" = none) (he : QE X W en m) (hgN : Gl X n) (hn : n ∈ names) (hdn : (n == ("__debug__" : Str)) = false)
    (hs1 : starEach [en, .Name n p2] X.env = (false, eval en X.env) :: starEach [.Name n p2] X.env := by rfl) (hs2 : starEach [.Name n p2] X.env = (false, eval (.Name n p2) X.env) :: starEach [] X.env := by rfl) (hpl : (backTo pos (starEach [.Name n p2] X.env)).any (·.1) = false := by rfl) :
    QE X W (.Call (.Name "isinstance" p) [en, .Name n p2] [] pos) (mIsX names (fun c => decide (c = n)) m) := by
  obtain ⟨D', q1, _⟩ := T.each n hn
  refine q_isX0 (c := .ref D') T hg hm he (pe_glob hgN q1 rfl hdn) (fun u r => r) (fun e he => ?_) hs1 hs2 hpl
  obtain ⟨D, _, d2, d3, _, _, d4⟩ := T.each e he
  obtain ⟨D2, e1, e2⟩ := d4 n hn
  rw [q1] at e1
  cases e1
  exact ⟨D, d2, d3, e2⟩
theorem q_isXV {names : List Str} {top : Value} {m : ME} {en : Expr} {p pos p2 : Pos} (T : ExcTab X.K X.mg top names) (hg : Gl X "isinstance") (hm : X.mg "isinstance" = none) (he : QE X W en m) (hgV : Gl X "ValueError") (hmV : X.mg "ValueError" = none)
    (hs1 : starEach [en, .Name "ValueError" p2] X.env = (false, eval en X.env) :: starEach [.Name "ValueError" p2] X.env := by rfl) (hs2 : starEach [.Name "ValueError" p2] X.env = (false, eval (.Name "ValueError" p2) X.env) :: starEach [] X.env := by rfl) (hpl : (backTo pos (starEach [.Name "ValueError" p2] X.env)).any (·.1) = false := by rfl) :
    QE X W (.Call (.Name "isinstance" p) [en, .Name "ValueError" p2] [] pos) (mIsX names (fun _ => true) m) := by
  refine q_isX0 (c := .ty "ValueError") T hg hm he (pe_bltn hgV hmV PyProof.Rows.Boot.«ValueError» rfl) (fun u r => r) (fun e he => ?_) hs1 hs2 hpl
  obtain ⟨D, _, d2, d3, _, d5, _⟩ := T.each e he
  exact ⟨D, d2, d3, d5⟩
end
/-! ### x = [.. for ..] on one line -/
section
variable [Tab] [Zok] {X : Cx} {W : WX}
theorem qs_setLc {i : Nat} {y : Str} {py : Pos} {elt tg iter : Expr} {ifs : List Expr} {scope : Scope} {own : List (Str × Nat)} {pos spos : Pos} {m : MI} {t : MT} {c : MB} {e : ME} (hc : X.calm = true) (hN : X.N.Nodup) (hy : X.N[i]? = some y) (hyl : X.env.scope.names.lookup y = some .local)
    (hsw : swapsWith (.ListComp elt [⟨tg, iter, ifs, 0⟩] scope pos) (some (.Name y py)) spos.line X.env = pure true) (hi : QI X W tg iter m) (ok : BlkOk X.N X.env.scope scope own)
    (hg : ∀ (s : Shared) (H : Hp) (C : Addr) (cl : List (Str × Addr)) (fp : List Addr), QG (X.blk s H scope (compEnvC scope cl C X.env) fp) tg (own.map (·.2)) t) (ht : ∀ (s : Shared) (H : Hp) (C : Addr) (cl : List (Str × Addr)) (fp : List Addr), QTs (X.blk s H scope (compEnvC scope cl C X.env) fp) W0 ifs c)
    (he : ∀ (s : Shared) (H : Hp) (C : Addr) (cl : List (Str × Addr)) (fp : List Addr), QE (X.blk s H scope (compEnvC scope cl C X.env) fp) W0 elt e) (hs : ∀ x, foldedSetIterable iter X.env x = pure x := by intro _; rfl) :
    QS X W (.Assign [.Name y py] (.ListComp elt [⟨tg, iter, ifs, 0⟩] scope pos) spos) (sSet i (mLc m (own.map (·.2)) t c e)) := by
  obtain ⟨t', h1, h2⟩ := q_setLc (W := W) hc hN hy hyl hsw hi ok hg ht he hs
  exact qs_set h1 h2
theorem qs_ownLc {i : Nat} {y : Str} {py : Pos} {elt tg iter : Expr} {ifs : List Expr} {scope : Scope} {own : List (Str × Nat)} {pos spos : Pos} {m : MI} {t : MT} {c : MB} {e : ME} (hc : X.calm = true) (hN : X.N.Nodup) (hy : X.N[i]? = some y) (hyl : X.env.scope.names.lookup y = some .local)
    (hsw : swapsWith (.ListComp elt [⟨tg, iter, ifs, 0⟩] scope pos) (some (.Name y py)) spos.line X.env = pure true) (hi : QI X W tg iter m) (ok : BlkOk X.N X.env.scope scope own)
    (hg : ∀ (s : Shared) (H : Hp) (C : Addr) (cl : List (Str × Addr)) (fp : List Addr), QG (X.blk s H scope (compEnvC scope cl C X.env) fp) tg (own.map (·.2)) t) (ht : ∀ (s : Shared) (H : Hp) (C : Addr) (cl : List (Str × Addr)) (fp : List Addr), QTs (X.blk s H scope (compEnvC scope cl C X.env) fp) W0 ifs c)
    (he : ∀ (s : Shared) (H : Hp) (C : Addr) (cl : List (Str × Addr)) (fp : List Addr), QE (X.blk s H scope (compEnvC scope cl C X.env) fp) W0 elt e) (hs : ∀ x, foldedSetIterable iter X.env x = pure x := by intro _; rfl) :
    QS X W (.Assign [.Name y py] (.ListComp elt [⟨tg, iter, ifs, 0⟩] scope pos) spos) (sOwn i (mLc m (own.map (·.2)) t c e)) := by
  obtain ⟨t', h1, h2⟩ := q_setLc (W := W) hc hN hy hyl hsw hi ok hg ht he hs
  exact qs_own h1 h2
end
theorem room_any {k : Nat} {A : Around} {e1 e2 : PySem.Env} (r : Room k (A.deeper e1)) : Room k (A.deeper e2) := ⟨r.hd, r.dp, r.un⟩
end PD

namespace PD
open PySem PySem.Spec PyProof.Rows L2
/-! ### the law's own end -/
/-- no list stands in the written part -/
def noListIn (K : PySem.W.Frag) : Bool := K.all fun p => match p.2.cls with
  | .type c => !(c == "list")
  | _ => true
theorem lookup_in {o : Obj} {a : Addr} : ∀ {l : List (Addr × Obj)}, l.lookup a = some o → (a, o) ∈ l
  | [], h => by cases h
  | (b, u) :: r, h => by
    rw [List.lookup_cons] at h
    by_cases e : a = b
    · subst e
      simp at h
      subst h
      exact List.mem_cons_self
    · have : (a == b) = false := by simpa using e
      rw [this] at h
      exact List.mem_cons_of_mem _ (lookup_in h)
theorem noList_of {K : PySem.W.Frag} (h : noListIn K = true) {a : Addr} {o : Obj} (e : K.lookup a = some o) : o.cls ≠ .type "list" := fun z => by
  have m : (a, o) ∈ K := lookup_in e
  have q := List.all_eq_true.mp h _ m
  rw [z] at q
  exact absurd q (by decide)
theorem rep_ints [Tab] {K : PySem.W.Frag} {F : Forb} {H : Hp} : ∀ ns : List Int, RepAll K F H (ns.map V.int) (ns.map PyData.int)
  | [] => .nil
  | n :: r => .cons (.int n) (rep_ints r)
theorem law_start [Tab] {K : PySem.W.Frag} {mg : Str → Option Value} {H : Hp} {a : Addr} {ns : List Int} {g : FS} (hS : SqL K H a (ns.map V.int)) (nl : noListIn K = true) (hl : ns.length ≤ 63) (tabs : LamX.Tabs Tab.T H)
    (hg : ∃ outs, g [.dat (.list (ns.map PyData.int))] = .ok (.dat (.bool true)) outs) : SpD K mg 1 g [.ref a] H (fun v _ => v = .bl true) fun _ _ _ => False := by
  obtain ⟨outs, hg⟩ := hg
  have z : (ns.map V.int).length ≤ sizeLine := by rw [List.length_map, sizeLine_eq]; omega
  have rp : Rep K (fun _ => False) H (.ref a) (.list (ns.map PyData.int)) := by
    rcases hS with (h | ⟨o, h⟩) | ⟨o, its, n, h1, h2, _⟩
    · exact .lst id h z (rep_ints ns)
    · exact .lstF id h z (rep_ints ns)
    · exact absurd h2 (noList_of nl h1)
  refine ⟨rfl, fun _ => False, [.dat (.list (ns.map PyData.int))], ⟨rfl, fun i sv e => ?_, fun i d e => ?_, fun i j b ⟨d, e, _⟩ _ => ?_, tabs, fun _ _ f => f.elim⟩, fun _ f => f.elim, ?_⟩
  · cases i with
    | zero => simp at e; subst e; exact ⟨_, rfl, rp⟩
    | succ i => simp at e
  · cases i with
    | zero => simp at e
    | succ i => simp at e
  · cases i with
    | zero => simp at e
    | succ i => simp at e
  · rw [hg]
    intro v H' F1 _ _ ro
    exact dat_bool ro
theorem never {P : Program} {w : World} {H : Hp} {s : Shared} {e : Value} {s' : Shared} (h : L2.CX P w [] H s (fun _ _ _ => False) e s') : False := by
  obtain ⟨_, _, _, _, _, _, _, _, _, _, _, _, z⟩ := h
  exact z
/-- the end, the head's loose names at hand -/
theorem walk_law {l : PySem.W.OpenLaw} {n k : Nat} {q : Program} {loose : List Str} {XP : (Str → Option Value) → Heap → Prop} {YP : World → Heap → Prop} {d : DefRec} {K : Params → PySem.W.Frag}
    (hn : l.most = some n) (hn2 : n ≤ sizeLine) (hdf : d.params.defaults = []) (hr : Room k callerA) (hY : ∀ (w : World) (h : Heap), YP w h → (K w.params).In h)
    (F : ∀ (w : World) (mg : Str → Option Value) (fa : Addr) (h : Heap), YP w h → (K w.params).In h → h.Ns mainGlobals mg → XP mg h → mg d.name = some (.ref fa) → LamX.LawAtS l w (K w.params) (L2.CX l.prog w) k n "script" mg fa h) :
    PySem.W.WalkO q loose XP YP l.row.toRowW d [] (fun f vs => PySem.call f vs) := by
  refine Att.attach_callB hn hdf fun w s₀ s₁ mg mb fa o pm cd doc a vs ns G Y ho hd hcd hmg hobj hints hlen hbits hg => ?_
  obtain ⟨fd, cs, sp, t1, t2, t3, t4, t5, t6⟩ := F w mg fa _ Y (hY w _ Y) G.T.g G.X hmg
  exact LamX.law_callTs (hY w _ Y) G.T.g G.T.b G.T.builtins G.T.nolimit hg t1 t2 t3 G.T.bmain hobj hints (Nat.le_trans hlen hn2) hr t6 t4 (fun H hH hS => t5 H a ns hlen hbits hH hS) fun H e s' h => never h
/-- the value of a loose int -/
theorem loose_int {p : Program} {lv : List (Str × PySem.W.WData)} {mg : Str → Option Value} {h : Heap} {x : Str} {i : Int} (X : PySem.W.XL p lv mg h) (m : (x, PySem.W.WData.int i) ∈ lv) : ∃ t, mg x = some (.int i t) := by
  obtain ⟨v, h1, h2⟩ := X.2.val _ m
  cases h2
  exact ⟨_, h1⟩
theorem fits_int {K : PySem.W.Frag} {h : Heap} {mg : Str → Option Value} {x : Str} {i : Int} {t : Tok} (X : K.In h) (G : h.Ns mainGlobals mg) (e : PySem.W.nsIn K mainGlobals x = some (some (.int i t))) : ∃ t, mg x = some (.int i t) := ⟨t, PySem.W.mg_of X G e⟩
/-- an own error's facts -/
theorem err_mk {P : Program} {w : World} {K : PySem.W.Frag} {mg : Str → Option Value} {base h : Heap} {x : Str} {C fI : Addr} {fd : FuncData} (X : K.In h) (G : h.Ns mainGlobals mg) (aC : PySem.W.nsIn K mainGlobals x = some (some (.ref C))) (T : OexC K C) (iC : PySem.W.findIn K (.ref C) "__init__" = some (some (.ref fI))) (tI : PySem.W.typeIn K (.ref fI) = some (.type "function"))
    (F1 : FnOk P w K mg base C8.CX0 1 fI fd ["self"] (spIni K)) (hb : Binds K fd ["self"] []) : ErrOk P w K mg base x := ⟨C, fI, fd, T, iC, tI, F1, hb, PySem.W.mg_of X G aC⟩
/-! ### facts of the written part, one def at a time -/
def FunAt (K : PySem.W.Frag) (mg : Str → Option Value) (x : Str) (st : Stmt) : Prop := ∃ (f : Addr) (fd : FuncData), mg x = some (.ref f) ∧ Fun K x x st f fd
theorem fun_at {K : PySem.W.Frag} {h : Heap} {mg : Str → Option Value} {x : Str} {st : Stmt} {f : Addr} {oc : Value} {od an : Option Addr} {osl : Array (Option Value)} {kV doc pm cdv ct : Value} (X : K.In h) (G : h.Ns mainGlobals mg) (a : PySem.W.nsIn K mainGlobals x = some (some (.ref f)))
    (l : K.lookup f = some ⟨oc, od, .func (PySem.W.fnOf x x (defArgs st) (defBody st) (defScope st) .none kV doc pm an cdv ct), osl⟩) (c : PySem.W.codeIn K cdv x = true) (k : PySem.W.keepIn K (.ref f) = true) : FunAt K mg x st := ⟨f, _, PySem.W.mg_of X G a, fun_mk l c k⟩
def FunCAt (K : PySem.W.Frag) (mg : Str → Option Value) (h : Heap) (x : Str) (st : Stmt) (c P : Addr) : Prop := (∃ (f : Addr) (fd : FuncData), mg x = some (.ref f) ∧ FunC K x st f fd c) ∧ K.lookup P = none ∧ PySem.W.CodeHd h c P
theorem funC_at {K : PySem.W.Frag} {h : Heap} {mg : Str → Option Value} {x : Str} {st : Stmt} {f c P : Addr} {oc : Value} {od an : Option Addr} {osl : Array (Option Value)} {kV doc pm ct : Value} (X : K.In h) (G : h.Ns mainGlobals mg) (a : PySem.W.nsIn K mainGlobals x = some (some (.ref f)))
    (l : K.lookup f = some ⟨oc, od, .func (PySem.W.fnOf x x (defArgs st) (defBody st) (defScope st) .none kV doc pm an (.ref c) ct), osl⟩) (cc : PySem.W.codeIn K (.ref c) x = true) (k : PySem.W.keepIn K (.ref f) = true) (hd : PySem.W.codeHdIn K c P = true) (nP : K.lookup P = none) : FunCAt K mg h x st c P :=
  ⟨⟨f, _, PySem.W.mg_of X G a, funC_mk l cc k⟩, nP, PySem.W.codeHd_of_K X hd⟩
def IniAt (K : PySem.W.Frag) (mg : Str → Option Value) (fI : Addr) : Prop := ∀ (P : Program) (w : World) (base : Heap), ∃ fd : FuncData, FnOk P w K mg base C8.CX0 1 fI fd ["self"] (spIni K) ∧ Binds K fd ["self"] []
/-- what is known of an own error's class at C -/
structure ErrF (K : PySem.W.Frag) (x : Str) (C fI CL : Addr) : Prop where
  gC : PySem.W.nsIn K mainGlobals x = some (some (.ref C))
  oex : OexC K C
  ini : PySem.W.findIn K (.ref C) "__init__" = some (some (.ref fI))
  exc : ExcC K C
  exm : PySem.W.exmOne K (.ref C) (.ref CL) = some true
  ve : PySem.W.kitOne K (.ref C) (.type "ValueError") = some true
theorem errF_mk {K : PySem.W.Frag} {x : Str} {C fI CL : Addr} {nm q : Str} {N : Addr} {bs bm : List Value} {sn : List Str} {sub : List Value} {ab : Bool} {col : Option Bool} {dd : Option Addr} {m0 m1 m2 m3 m5 : Option Value}
    (aC : PySem.W.nsIn K mainGlobals x = some (some (.ref C))) (xL : K.lookup C = some (excClassObj nm q C N bs bm true sn sub ab col dd m0 m1 m2 m3 m5 "ValueError.__new__")) (rv : PySem.HandSPX.refsVE bm = true)
    (sa : PySem.W.findIn K (.ref C) "__setattr__" = some (some (.builtin "object.__setattr__"))) (eC : PySem.W.subIn K (.ref C) (.type "BaseException") = some true) (tC : PySem.W.typeIn K (.ref C) = some (.type "type")) (kC : PySem.W.keepIn K (.ref C) = true) (iC : PySem.W.findIn K (.ref C) "__init__" = some (some (.ref fI)))
    (ga : PySem.W.findIn K (.ref C) "__getattribute__" = some (some (.builtin "BaseException.__getattribute__"))) (gg : PySem.W.findIn K (.ref C) "__getattr__" = some none) (hd : PySem.W.hasDictIn K C = true) (hc : PySem.W.findIn K (.ref C) "__class__" = some (some (.builtin "object.__class__")))
    (hn : PySem.W.specialIn K (.builtin "object.__class__") "__get__" = some (some (.builtin "getset_descriptor.__get__"))) (ht : PySem.W.takesIn K (.builtin "object.__class__") = some true) (hm : PySem.W.mroIn K C (.type "object") = some true)
    (eL : PySem.W.subIn K (.ref CL) (.type "BaseException") = some true) (dL : PySem.W.hasDictIn K CL = true) (tL : PySem.W.typeIn K (.ref CL) = some (.type "type")) (sL : PySem.W.subIn K (.ref C) (.ref CL) = some true) (ve : PySem.W.kitOne K (.ref C) (.type "ValueError") = some true) : ErrF K x C fI CL :=
  ⟨aC, ⟨⟨nm, q, N, bs, bm, sn, sub, ab, col, dd, m0, m1, m2, m3, m5, xL, rv⟩, sa, eC, tC, kC⟩, iC, ⟨ga, gg, eC, hd, hc, hn, ht, hm⟩, PySem.W.exm_ref eL dL tL sL, ve⟩
theorem ErrF.ok {K : PySem.W.Frag} {mg : Str → Option Value} {h : Heap} {x : Str} {C fI CL : Addr} (E : ErrF K x C fI CL) (X : K.In h) (G : h.Ns mainGlobals mg) (tI : PySem.W.typeIn K (.ref fI) = some (.type "function")) (I : IniAt K mg fI) (P : Program) (w : World) (base : Heap) : ErrOk P w K mg base x := by
  obtain ⟨fd, h1, h2⟩ := I P w base
  exact ⟨C, fI, fd, E.oex, E.ini, tI, h1, h2, PySem.W.mg_of X G E.gC⟩
end PD

namespace PD
open PySem
/-! ### reckoning with the combinators -/
/-- what a def of data gives -/
def Ev (f : FS) (ds : List D) (r : D) : Prop := ∃ outs, f (ds.map SV.dat) = .ok (.dat r) outs
def EvO (f : FS) (ds : List D) (r : D) : Prop := ∃ outs, f (ds.map SV.dat) = .ok (.own r) outs
def EvX (f : FS) (ds : List D) (x : Str) : Prop := f (ds.map SV.dat) = .exc ⟨x, []⟩
theorem putOuts_dats : ∀ (rs : List RV) (outs : List D) (ρ : Env), bors rs = [] → putOuts ρ rs outs = ρ
  | [], _, ρ, _ => by unfold putOuts; rfl
  | .bor _ :: _, _, _, h => by simp [bors] at h
  | .dat _ :: rs, [], ρ, _ => by unfold putOuts; rfl
  | .own _ :: rs, [], ρ, _ => by unfold putOuts; rfl
  | .thg _ :: rs, [], ρ, _ => by unfold putOuts; rfl
  | .dat _ :: rs, _ :: outs, ρ, h => by unfold putOuts; exact putOuts_dats rs outs ρ h
  | .own _ :: rs, _ :: outs, ρ, h => by unfold putOuts; exact putOuts_dats rs outs ρ h
  | .thg _ :: rs, _ :: outs, ρ, h => by unfold putOuts; exact putOuts_dats rs outs ρ h
theorem bors_dats (ds : List D) : bors (ds.map RV.dat) = [] := by
  induction ds with
  | nil => rfl
  | cons d ds ih => exact ih
theorem argsOf_dats (ρ : Env) (ds : List D) : argsOf ρ (ds.map RV.dat) = some (ds.map SV.dat) := by
  induction ds with
  | nil => rfl
  | cons d ds ih =>
    show (match argOf ρ (.dat d), argsOf ρ (ds.map RV.dat) with
      | some a, some as => some (a :: as)
      | _, _ => none) = _
    rw [ih]
    rfl
theorem mCall_ev {n : Nat} {f : FS} {ds : List D} {r : D} (h : Ev f ds r) {a : MEs} {ρ ρ1 : Env} (ha : a ρ = .ok (ds.map RV.dat) ρ1) (hn : ds.length = n := by rfl) : mCall n f a ρ = .ok (.dat r) ρ1 := by
  subst hn
  obtain ⟨outs, h⟩ := h
  unfold mCall
  rw [ha]
  simp only [Out.bind, List.length_map, bors_dats, argsOf_dats, h, retV, List.nodup_nil, and_self, if_true]
  rw [putOuts_dats _ _ _ (bors_dats ds)]
theorem mCall_evO {n : Nat} {f : FS} {ds : List D} {r : D} (h : EvO f ds r) {a : MEs} {ρ ρ1 : Env} (ha : a ρ = .ok (ds.map RV.dat) ρ1) (hn : ds.length = n := by rfl) : mCall n f a ρ = .ok (.own r) ρ1 := by
  subst hn
  obtain ⟨outs, h⟩ := h
  unfold mCall
  rw [ha]
  simp only [Out.bind, List.length_map, bors_dats, argsOf_dats, h, retV, List.nodup_nil, and_self, if_true]
  rw [putOuts_dats _ _ _ (bors_dats ds)]
theorem mCall_evX {n : Nat} {f : FS} {ds : List D} {x : Str} (h : EvX f ds x) {a : MEs} {ρ ρ1 : Env} (ha : a ρ = .ok (ds.map RV.dat) ρ1) (hn : ds.length = n := by rfl) : mCall n f a ρ = .exc ⟨x, []⟩ ρ1 := by
  subst hn
  unfold mCall
  rw [ha]
  simp only [Out.bind, List.length_map, bors_dats, argsOf_dats, List.nodup_nil, and_self, if_true]
  rw [h]
/-! ints -/
@[simp] theorem eqv_int (a b : Int) : PyData.eqv (.int a) (.int b) = decide (a = b) := (rfl)
@[simp] theorem dEq_int (a b : Int) : dEq (.int a) (.int b) = some (.dat (.bool (decide (a = b)))) := by
  simp [dEq, eqOk, PyData.plain, PyData.depth]
@[simp] theorem dNe_int (a b : Int) : dNe (.int a) (.int b) = some (.dat (.bool (!decide (a = b)))) := by
  simp [dNe, eqOk, PyData.plain, PyData.depth]
theorem ltOk_int (a b : Int) : ltOk (.int a) (.int b) = true := by
  simp [ltOk, PyData.plain, PyData.depth, PySem.W.alike]
theorem dataLt_int (a b : Int) : PySem.W.dataLt (.int a) (.int b) = decide (a < b) := by
  simp [PySem.W.dataLt, PySem.W.keyToks, PyProof.Rows.lexLt]
  rfl
theorem nlt (a b : Int) : (!decide (b < a)) = decide (a ≤ b) := by
  by_cases h : b < a
  · simp [h]
  · simp only [h, decide_false, Bool.not_false]; symm; simpa using h
@[simp] theorem dLt_int (a b : Int) : dLt (.int a) (.int b) = some (.dat (.bool (decide (a < b)))) := by
  simp [dLt, ltOk_int, dataLt_int]
@[simp] theorem dGt_int (a b : Int) : dGt (.int a) (.int b) = some (.dat (.bool (decide (b < a)))) := by
  simp [dGt, ltOk_int, dataLt_int]
@[simp] theorem dLe_int (a b : Int) : dLe (.int a) (.int b) = some (.dat (.bool (decide (a ≤ b)))) := by
  simp only [dLe, ltOk_int, dataLt_int, if_true, nlt]
@[simp] theorem dGe_int (a b : Int) : dGe (.int a) (.int b) = some (.dat (.bool (decide (b ≤ a)))) := by
  simp only [dGe, ltOk_int, dataLt_int, if_true, nlt]
@[simp] theorem dAdd_int (a b : Int) : dAdd (.int a) (.int b) = some (.dat (.int (a + b))) := (rfl)
@[simp] theorem dSub_int (a b : Int) : dSub (.int a) (.int b) = some (.dat (.int (a - b))) := (rfl)

/-- a slot that must not be overwritten -/
def isPar (x : Option (Option SV)) : Bool := match x with | some (some (.par _)) => true | some (some (.opq o)) => o.prot | _ => false
@[simp] theorem isPar_1 (d : D) : isPar (some (some (.dat d))) = false := (rfl)
@[simp] theorem isPar_2 (d : D) : isPar (some (some (.own d))) = false := (rfl)
@[simp] theorem isPar_3 : isPar (some none) = false := (rfl)
@[simp] theorem isPar_4 : isPar none = false := (rfl)
@[simp] theorem isPar_5 (d : D) : isPar (some (some (.par d))) = true := (rfl)
@[simp] theorem isPar_6 (o : OV) : isPar (some (some (.opq o))) = o.prot := (rfl)
@[simp] theorem prot_1 : OV.prot .unk = true := (rfl)
@[simp] theorem prot_2 (c : Str) : OV.prot (.exc c) = true := (rfl)
@[simp] theorem prot_3 (c : Str) : OV.prot (.fnv c) = false := (rfl)
/-! ### each combinator, unrolled -/
section
variable {α β : Type} (ρ : Env)
@[simp] theorem r_bind1 (a : α) (f : α → Env → Out β) : Out.bind (.ok a ρ) f = f a ρ := (rfl)
@[simp] theorem r_bind2 (e : Exc) (f : α → Env → Out β) : Out.bind (.exc e ρ) f = .exc e ρ := (rfl)
@[simp] theorem r_bind3 (f : α → Env → Out β) : Out.bind .no f = .no := (rfl)
@[simp] theorem r_bindS1 (a : α) (f : α → Env → SO) : Out.bindS (.ok a ρ) f = f a ρ := (rfl)
@[simp] theorem r_bindS2 (e : Exc) (f : α → Env → SO) : Out.bindS (.exc e ρ) f = .exc e ρ := (rfl)
@[simp] theorem r_bindS3 (f : α → Env → SO) : Out.bindS .no f = .no := (rfl)
@[simp] theorem r_sb1 (f : Env → SO) : SO.bind (.next ρ) f = f ρ := (rfl)
@[simp] theorem r_sb2 (r : RV) (f : Env → SO) : SO.bind (.ret r ρ) f = .ret r ρ := (rfl)
@[simp] theorem r_sb3 (e : Exc) (f : Env → SO) : SO.bind (.exc e ρ) f = .exc e ρ := (rfl)
@[simp] theorem r_sb4 (f : Env → SO) : SO.bind (.brk ρ) f = .brk ρ := (rfl)
@[simp] theorem r_sb5 (f : Env → SO) : SO.bind (.cont ρ) f = .cont ρ := (rfl)
@[simp] theorem r_get1 (d : D) : RV.get ρ (.dat d) = some d := (rfl)
@[simp] theorem r_get2 (d : D) : RV.get ρ (.own d) = some d := (rfl)
@[simp] theorem r_get3 (i : Nat) : RV.get ρ (.bor i) = slotD ρ i := (rfl)
@[simp] theorem r_get4 (o : OV) : RV.get ρ (.thg o) = none := (rfl)
@[simp] theorem r_slotD (i : Nat) : slotD ρ i = match ρ[i]? with | some (some (.opq _)) => none | some (some sv) => some sv.get | _ => none := (rfl)
@[simp] theorem r_svget1 (d : D) : SV.get (.dat d) = d := (rfl)
@[simp] theorem r_svget2 (d : D) : SV.get (.own d) = d := (rfl)
@[simp] theorem r_svget3 (d : D) : SV.get (.par d) = d := (rfl)
@[simp] theorem r_mC (d : D) : mC d ρ = .ok (.dat d) ρ := (rfl)
@[simp] theorem r_mV (i : Nat) : mV i ρ = match ρ[i]? with | some (some (.dat d)) => .ok (.dat d) ρ | some (some (.own _)) => .ok (.bor i) ρ | some (some (.par _)) => .ok (.bor i) ρ | some (some (.opq o)) => .ok (.thg o) ρ | _ => .no := (rfl)
@[simp] theorem r_mMv (i : Nat) : mMv i ρ = match ρ[i]? with | some (some (.dat d)) => .ok (.dat d) ρ | some (some (.own d)) => .ok (.dat d) (ρ.set i (some (.dat d))) | _ => .no := (rfl)
@[simp] theorem r_mNil : mNil ρ = .ok [] ρ := (rfl)
@[simp] theorem r_mCons (a : ME) (b : MEs) : mCons a b ρ = (a ρ).bind fun x ρ1 => (b ρ1).bind fun xs ρ2 => .ok (x :: xs) ρ2 := (rfl)
@[simp] theorem r_m2 (a b : ME) (f : D → D → Option RV) : m2 a b f ρ = (a ρ).bind fun x ρ1 => (b ρ1).bind fun y ρ2 => match x.get ρ2, y.get ρ2 with
  | some d, some e => (match f d e with
    | some r => .ok r ρ2
    | none => .no)
  | _, _ => .no := (rfl)
@[simp] theorem r_m1 (a : ME) (f : D → Option RV) : m1 a f ρ = (a ρ).bind fun x ρ1 => match x.get ρ1 with
  | some d => (match f d with
    | some r => .ok r ρ1
    | none => .no)
  | _ => .no := (rfl)
@[simp] theorem r_gets1 : gets ρ [] = some [] := (rfl)
@[simp] theorem r_gets2 (r : RV) (rs : List RV) : gets ρ (r :: rs) = match r.get ρ, gets ρ rs with | some d, some ds => some (d :: ds) | _, _ => none := (rfl)
@[simp] theorem r_mN (a : MEs) (f : List D → Option RV) : mN a f ρ = (a ρ).bind fun xs ρ1 => match gets ρ1 xs with
  | some ds => (match f ds with
    | some r => .ok r ρ1
    | none => .no)
  | _ => .no := (rfl)
@[simp] theorem r_on1 (f : D → Option RV) (d : D) : on1 f [d] = f d := (rfl)
@[simp] theorem r_bT (a : ME) : bT a ρ = (a ρ).bind fun x ρ1 => match x.get ρ1 with
  | some d => (match truthy d with
    | some b => .ok b ρ1
    | none => .no)
  | none => .no := (rfl)
@[simp] theorem r_truthy1 (b : Bool) : truthy (.bool b) = some b := (rfl)
@[simp] theorem r_truthy2 (i : Int) : truthy (.int i) = some (i != 0) := (rfl)
@[simp] theorem r_truthy3 (xs : List D) : truthy (.list xs) = some (!xs.isEmpty) := (rfl)
@[simp] theorem r_truthy4 (xs : List D) : truthy (.tuple xs) = some (!xs.isEmpty) := (rfl)
@[simp] theorem r_truthy5 : truthy .none = some false := (rfl)
@[simp] theorem r_bNot (a : MB) : bNot a ρ = (a ρ).bind fun b ρ1 => .ok (!b) ρ1 := (rfl)
@[simp] theorem r_bAnd (a b : MB) : bAnd a b ρ = (a ρ).bind fun c ρ1 => if c then b ρ1 else .ok false ρ1 := (rfl)
@[simp] theorem r_bOr (a b : MB) : bOr a b ρ = (a ρ).bind fun c ρ1 => if c then .ok true ρ1 else b ρ1 := (rfl)
@[simp] theorem r_bYes : bYes ρ = .ok true ρ := (rfl)
@[simp] theorem r_mAndV (a b : ME) : mAndV a b ρ = (a ρ).bind fun x ρ1 => match x with
  | .dat (.bool c) => if c then b ρ1 else .ok (.dat (.bool false)) ρ1
  | _ => .no := (rfl)
@[simp] theorem r_mOrV (a b : ME) : mOrV a b ρ = (a ρ).bind fun x ρ1 => match x with
  | .dat (.bool c) => if c then .ok (.dat (.bool true)) ρ1 else b ρ1
  | _ => .no := (rfl)
@[simp] theorem r_mNotV (a : ME) : mNotV a ρ = (a ρ).bind fun x ρ1 => match x with
  | .dat (.bool c) => .ok (.dat (.bool (!c))) ρ1
  | _ => .no := (rfl)
@[simp] theorem r_mIf (c : MB) (a b : ME) : mIf c a b ρ = (c ρ).bind fun t ρ1 => if t then a ρ1 else b ρ1 := (rfl)
@[simp] theorem r_mIsi (a : ME) (f : D → Bool) : mIsi a f ρ = (a ρ).bind fun x ρ1 => match x.get ρ1 with
  | some d => .ok (.dat (.bool (f d))) ρ1
  | _ => .no := (rfl)
@[simp] theorem r_frz1 : frz [] = some [] := (rfl)
@[simp] theorem r_frz2 (d : D) (rs : List RV) : frz (.dat d :: rs) = (frz rs).map (d :: ·) := (rfl)
@[simp] theorem r_frz3 (d : D) (rs : List RV) : frz (.own d :: rs) = (frz rs).map (d :: ·) := (rfl)
@[simp] theorem r_frz4 (i : Nat) (rs : List RV) : frz (.bor i :: rs) = none := (rfl)
@[simp] theorem r_frz5 (o : OV) (rs : List RV) : frz (.thg o :: rs) = none := (rfl)
@[simp] theorem r_mList (a : MEs) : mList a ρ = (a ρ).bind fun xs ρ1 => match frz xs with
  | some ds => if ds.length ≤ LINE then .ok (.own (.list ds)) ρ1 else .no
  | none => .no := (rfl)
@[simp] theorem r_mTup (a : MEs) : mTup a ρ = (a ρ).bind fun xs ρ1 => match frz xs with
  | some ds => if ds.length ≤ LINE then .ok (.dat (.tuple ds)) ρ1 else .no
  | none => .no := (rfl)
@[simp] theorem r_LINE : LINE = 16777216 := (rfl)
@[simp] theorem r_sPass : sPass ρ = .next ρ := (rfl)
@[simp] theorem r_sSeq (a b : MS) : sSeq a b ρ = (a ρ).bind b := (rfl)
@[simp] theorem r_sExpr (m : ME) : sExpr m ρ = (m ρ).bindS fun _ ρ1 => .next ρ1 := (rfl)
@[simp] theorem r_sRet (m : ME) : sRet m ρ = (m ρ).bindS fun r ρ1 => .ret r ρ1 := (rfl)
@[simp] theorem r_sRetN : sRetN ρ = .ret (.dat .none) ρ := (rfl)
@[simp] theorem r_sIf (c : MB) (a b : MS) : sIf c a b ρ = (c ρ).bindS fun t ρ1 => if t then a ρ1 else b ρ1 := (rfl)
@[simp] theorem r_sRaise (x : Str) : sRaise x ρ = .exc ⟨x, []⟩ ρ := (rfl)
@[simp] theorem r_parAt (i : Nat) : parAt ρ i = isPar ρ[i]? := (rfl)
@[simp] theorem r_sSet (i : Nat) (m : ME) : sSet i m ρ = (m ρ).bindS fun r ρ1 => if parAt ρ1 i then .no else match r with
  | .dat d => .next (ρ1.set i (some (.dat d)))
  | .own d => .next (ρ1.set i (some (.dat d)))
  | .bor _ => .no
  | .thg _ => .no := by
  unfold sSet
  congr 1
@[simp] theorem r_sOwn (i : Nat) (m : ME) : sOwn i m ρ = (m ρ).bindS fun r ρ1 => if parAt ρ1 i then .no else match r with
  | .own d => .next (ρ1.set i (some (.own d)))
  | _ => .no := (rfl)
@[simp] theorem r_sAug (i : Nat) (f : Int → Int → Int) (m : ME) : sAug i f m ρ = match ρ[i]? with
  | some (some (.dat (.int x))) => (m ρ).bindS fun r ρ1 => (match r with
    | .dat (.int y) => if parAt ρ1 i then .no else .next (ρ1.set i (some (.dat (.int (f x y)))))
    | _ => .no)
  | _ => .no := (rfl)
@[simp] theorem r_put1a (i : Nat) (d : D) : put1 false i (.dat d) ρ = if parAt ρ i then none else some (ρ.set i (some (.dat d))) := (rfl)
@[simp] theorem r_put1b (i : Nat) (d : D) : put1 false i (.own d) ρ = if parAt ρ i then none else some (ρ.set i (some (.dat d))) := (rfl)
@[simp] theorem r_put1c (i : Nat) (d : D) : put1 true i (.own d) ρ = if parAt ρ i then none else some (ρ.set i (some (.own d))) := (rfl)
@[simp] theorem r_sPar (p q : Nat × Bool) (ma mb : ME) : sPar p q ma mb ρ = (ma ρ).bindS fun r ρ1 => (mb ρ1).bindS fun t ρ2 => match put1 p.2 p.1 r ρ2 with
  | some ρ3 => (match t with
    | .bor _ => .no
    | .thg _ => .no
    | .dat d => (match put1 q.2 q.1 (.dat d) ρ3 with
      | some ρ4 => .next ρ4
      | none => .no)
    | .own d => (match put1 q.2 q.1 (.own d) ρ3 with
      | some ρ4 => .next ρ4
      | none => .no))
  | none => .no := by
  unfold sPar
  congr 1
  funext r ρ1
  congr 1
  funext t ρ2
  cases put1 p.2 p.1 r ρ2 with
  | none => rfl
  | some ρ3 => cases t <;> rfl
@[simp] theorem r_mChain (f g : D → D → Option RV) (a b c : ME) : mChain f g a b c ρ = (a ρ).bind fun x ρ1 => (b ρ1).bind fun y ρ2 => match x.get ρ2, y.get ρ2 with
  | some d, some e => (match f d e with
    | some (.dat (.bool true)) => (c ρ2).bind fun z ρ3 => (match y.get ρ3, z.get ρ3 with
      | some e', some h => (match g e' h with
        | some r => .ok r ρ3
        | none => .no)
      | _, _ => .no)
    | some (.dat (.bool false)) => .ok (.dat (.bool false)) ρ2
    | _ => .no)
  | _, _ => .no := (rfl)
@[simp] theorem r_tName (i : Nat) (d : D) : tName i d ρ = if parAt ρ i then none else some (ρ.set i (some (.dat d))) := (rfl)
end
/-- a two-sided comparison of ints -/
theorem chain_int {a b c : ME} {ρ ρ1 ρ2 ρ3 : Env} {x y z : Int} (ha : a ρ = .ok (.dat (.int x)) ρ1) (hb : b ρ1 = .ok (.dat (.int y)) ρ2) (hc : c ρ2 = .ok (.dat (.int z)) ρ3) (h : ρ3 = ρ2) : mChain dLe dLe a b c ρ = .ok (.dat (.bool (decide (x ≤ y) && decide (y ≤ z)))) ρ2 := by
  subst h
  unfold mChain
  rw [ha]
  simp only [r_bind1, hb, r_get1, dLe_int]
  by_cases q : x ≤ y
  · simp [q, hc]
  · simp [q]

/-! ### a call, its arguments reckoned -/
def callK (n : Nat) (f : FS) (ρ : Env) (rs : List RV) : Out RV := if rs.length = n ∧ (bors rs).Nodup then (match argsOf ρ rs with
    | some as => (match f as with
      | .ok r outs => (match retV r with
        | some r => .ok r (putOuts ρ rs outs)
        | none => .no)
      | .exc e => .exc e ρ
      | .no => .no)
    | none => .no)
  else .no
@[simp] theorem r_mCall (n : Nat) (f : FS) (a : MEs) (ρ : Env) : mCall n f a ρ = (a ρ).bind fun rs ρ1 => callK n f ρ1 rs := (rfl)
/-- data, new or old -/
inductive IsDat : RV → D → Prop
  | dat (d : D) : IsDat (.dat d) d
  | own (d : D) : IsDat (.own d) d
theorem callK_ev {n : Nat} {f : FS} {ds : List D} {r : D} (h : Ev f ds r) (ρ : Env) (hn : ds.length = n := by rfl) : callK n f ρ (ds.map RV.dat) = .ok (.dat r) ρ := by
  have := mCall_ev (n := n) (a := fun ρ => .ok (ds.map RV.dat) ρ) (ρ := ρ) (ρ1 := ρ) h rfl hn
  exact this
theorem callK_evO {n : Nat} {f : FS} {ds : List D} {r : D} (h : EvO f ds r) (ρ : Env) (hn : ds.length = n := by rfl) : callK n f ρ (ds.map RV.dat) = .ok (.own r) ρ :=
  mCall_evO (n := n) (a := fun ρ => .ok (ds.map RV.dat) ρ) (ρ := ρ) (ρ1 := ρ) h rfl hn
theorem callK_evX {n : Nat} {f : FS} {ds : List D} {x : Str} (h : EvX f ds x) (ρ : Env) (hn : ds.length = n := by rfl) : callK n f ρ (ds.map RV.dat) = .exc ⟨x, []⟩ ρ :=
  mCall_evX (n := n) (a := fun ρ => .ok (ds.map RV.dat) ρ) (ρ := ρ) (ρ1 := ρ) h rfl hn
section
variable {f : FS} {a b c e r : D} {x : Str}
theorem call1 (h : Ev f [a] r) (ρ : Env) : callK 1 f ρ [.dat a] = .ok (.dat r) ρ := callK_ev h ρ
theorem call2 (h : Ev f [a, b] r) (ρ : Env) : callK 2 f ρ [.dat a, .dat b] = .ok (.dat r) ρ := callK_ev h ρ
theorem call3 (h : Ev f [a, b, c] r) (ρ : Env) : callK 3 f ρ [.dat a, .dat b, .dat c] = .ok (.dat r) ρ := callK_ev h ρ
theorem call4 (h : Ev f [a, b, c, e] r) (ρ : Env) : callK 4 f ρ [.dat a, .dat b, .dat c, .dat e] = .ok (.dat r) ρ := callK_ev h ρ
theorem call1O (h : EvO f [a] r) (ρ : Env) : callK 1 f ρ [.dat a] = .ok (.own r) ρ := callK_evO h ρ
theorem call2O (h : EvO f [a, b] r) (ρ : Env) : callK 2 f ρ [.dat a, .dat b] = .ok (.own r) ρ := callK_evO h ρ
theorem call1X (h : EvX f [a] x) (ρ : Env) : callK 1 f ρ [.dat a] = .exc ⟨x, []⟩ ρ := callK_evX h ρ
theorem call2X (h : EvX f [a, b] x) (ρ : Env) : callK 2 f ρ [.dat a, .dat b] = .exc ⟨x, []⟩ ρ := callK_evX h ρ
theorem call3X (h : EvX f [a, b, c] x) (ρ : Env) : callK 3 f ρ [.dat a, .dat b, .dat c] = .exc ⟨x, []⟩ ρ := callK_evX h ρ
end
/-! ### loops -/
theorem forLoop_inv {S : Type} {t : MT} {b : MS} (R : S → Env → Prop) (step : S → D → S) : ∀ (ds : List D) (s : S) (ρ : Env), (∀ s ρ d, d ∈ ds → R s ρ → ∃ ρ1 ρ2, t d ρ = some ρ1 ∧ b ρ1 = .next ρ2 ∧ R (step s d) ρ2) → R s ρ → ∃ ρ', forLoop t b ds ρ = .next ρ' ∧ R (ds.foldl step s) ρ'
  | [], s, ρ, _, r => ⟨ρ, rfl, r⟩
  | d :: ds, s, ρ, h, r => by
    obtain ⟨ρ1, ρ2, h1, h2, h3⟩ := h s ρ d List.mem_cons_self r
    obtain ⟨ρ', q1, q2⟩ := forLoop_inv R step ds (step s d) ρ2 (fun s ρ d hd => h s ρ d (List.mem_cons_of_mem _ hd)) h3
    refine ⟨ρ', ?_, q2⟩
    unfold forLoop
    rw [h1]
    dsimp only
    rw [h2]
    exact q1
theorem lcLoop_map {vs : List Nat} {t : MT} {c : MB} {e : ME} {ρ : Env} (f : D → D) (p : D → Bool) : ∀ (ds acc : List D), (∀ d ∈ ds, ∃ ρ1 r, t d ρ = some ρ1 ∧ c ρ1 = .ok (p d) ρ1 ∧ (p d = true → e ρ1 = .ok r ρ1 ∧ frz [r] = some [f d]) ∧ noPar ρ1 vs = true ∧ wipeE ρ1 vs = ρ) →
    lcLoop vs t c e ds ρ acc = .ok (acc ++ (ds.filter p).map f) ρ
  | [], acc, _ => by simp [lcLoop]
  | d :: ds, acc, h => by
    obtain ⟨ρ1, r, h1, h2, h3, h4, h5⟩ := h d List.mem_cons_self
    have ih := fun acc => lcLoop_map f p ds acc fun d hd => h d (List.mem_cons_of_mem _ hd)
    unfold lcLoop
    rw [h1]
    dsimp only
    rw [h2]
    cases q : p d with
    | false =>
      show (if noPar ρ1 vs then lcLoop vs t c e ds (wipeE ρ1 vs) acc else .no) = _
      rw [h4, h5, if_pos rfl, ih, List.filter_cons, q]
      rfl
    | true =>
      obtain ⟨h6, h7⟩ := h3 q
      show ((e ρ1).quiet.bind _) = _
      rw [h6]
      show (match frz [r] with
        | some [x] => if noPar ρ1 vs then lcLoop vs t c e ds (wipeE ρ1 vs) (acc ++ [x]) else .no
        | _ => .no) = _
      rw [h7]
      dsimp only
      rw [h4, h5, if_pos rfl, ih, List.filter_cons, q]
      simp
/-- a comprehension over data -/
theorem mLc_map {m : MI} {vs : List Nat} {t : MT} {c : MB} {e : ME} {ρ ρ0 : Env} {ds : List D} (f : D → D) (p : D → Bool) (hm : m ρ0 = .ok ds ρ) (hp : noPar ρ vs = true) (hl : ds.length ≤ LINE) (hb : backE ρ (wipeE ρ vs) vs = ρ)
    (h : ∀ d ∈ ds, ∃ ρ1 r, t d (wipeE ρ vs) = some ρ1 ∧ c ρ1 = .ok (p d) ρ1 ∧ (p d = true → e ρ1 = .ok r ρ1 ∧ frz [r] = some [f d]) ∧ noPar ρ1 vs = true ∧ wipeE ρ1 vs = wipeE ρ vs) : mLc m vs t c e ρ0 = .ok (.own (.list ((ds.filter p).map f))) ρ := by
  unfold mLc
  rw [hm]
  show (if (noPar ρ vs && decide (ds.length ≤ LINE)) = true then (lcLoop vs t c e ds (wipeE ρ vs) []).bind fun acc ρ2 => .ok (RV.own (PyData.list acc)) (backE ρ ρ2 vs) else .no) = _
  rw [hp, decide_eq_true hl, Bool.and_self, if_pos rfl, lcLoop_map f p ds [] h]
  simp [hb]
theorem mLc_all {m : MI} {vs : List Nat} {t : MT} {e : ME} {ρ ρ0 : Env} {ds : List D} (f : D → D) (hm : m ρ0 = .ok ds ρ) (hp : noPar ρ vs = true) (hl : ds.length ≤ LINE) (hb : backE ρ (wipeE ρ vs) vs = ρ)
    (h : ∀ d ∈ ds, ∃ ρ1 r, t d (wipeE ρ vs) = some ρ1 ∧ e ρ1 = .ok r ρ1 ∧ frz [r] = some [f d] ∧ noPar ρ1 vs = true ∧ wipeE ρ1 vs = wipeE ρ vs) : mLc m vs t bYes e ρ0 = .ok (.own (.list (ds.map f))) ρ := by
  have := mLc_map (c := bYes) f (fun _ => true) hm hp hl hb fun d hd => by
    obtain ⟨ρ1, r, h1, h2, h3, h4, h5⟩ := h d hd
    exact ⟨ρ1, r, h1, rfl, fun _ => ⟨h2, h3⟩, h4, h5⟩
  rw [this, List.filter_eq_self.mpr (fun _ _ => rfl)]

theorem lcLoop_enc {α : Type} {vs : List Nat} {t : MT} {c : MB} {e : ME} {ρ : Env} (enc g : α → D) (p : α → Bool) : ∀ (l : List α) (acc : List D), (∀ a ∈ l, ∃ ρ1 r, t (enc a) ρ = some ρ1 ∧ c ρ1 = .ok (p a) ρ1 ∧ (p a = true → e ρ1 = .ok r ρ1 ∧ frz [r] = some [g a]) ∧ noPar ρ1 vs = true ∧ wipeE ρ1 vs = ρ) →
    lcLoop vs t c e (l.map enc) ρ acc = .ok (acc ++ (l.filter p).map g) ρ
  | [], acc, _ => by simp [lcLoop]
  | d :: ds, acc, h => by
    obtain ⟨ρ1, r, h1, h2, h3, h4, h5⟩ := h d List.mem_cons_self
    have ih := fun acc => lcLoop_enc enc g p ds acc fun d hd => h d (List.mem_cons_of_mem _ hd)
    rw [List.map_cons]
    unfold lcLoop
    rw [h1]
    dsimp only
    rw [h2]
    cases q : p d with
    | false =>
      show (if noPar ρ1 vs then lcLoop vs t c e (ds.map enc) (wipeE ρ1 vs) acc else .no) = _
      rw [h4, h5, if_pos rfl, ih, List.filter_cons, q]
      rfl
    | true =>
      obtain ⟨h6, h7⟩ := h3 q
      show ((e ρ1).quiet.bind _) = _
      rw [h6]
      show (match frz [r] with
        | some [x] => if noPar ρ1 vs then lcLoop vs t c e (ds.map enc) (wipeE ρ1 vs) (acc ++ [x]) else .no
        | _ => .no) = _
      rw [h7]
      dsimp only
      rw [h4, h5, if_pos rfl, ih, List.filter_cons, q]
      simp
theorem mLc_if {α : Type} {m : MI} {vs : List Nat} {t : MT} {c : MB} {e : ME} {ρ ρ0 : Env} (l : List α) (enc g : α → D) (p : α → Bool) (hm : m ρ0 = .ok (l.map enc) ρ) (hp : noPar ρ vs = true) (hl : l.length ≤ LINE) (hb : backE ρ (wipeE ρ vs) vs = ρ)
    (h : ∀ a ∈ l, ∃ ρ1 r, t (enc a) (wipeE ρ vs) = some ρ1 ∧ c ρ1 = .ok (p a) ρ1 ∧ (p a = true → e ρ1 = .ok r ρ1 ∧ frz [r] = some [g a]) ∧ noPar ρ1 vs = true ∧ wipeE ρ1 vs = wipeE ρ vs) : mLc m vs t c e ρ0 = .ok (.own (.list ((l.filter p).map g))) ρ := by
  unfold mLc
  rw [hm]
  show (if (noPar ρ vs && decide ((l.map enc).length ≤ LINE)) = true then (lcLoop vs t c e (l.map enc) (wipeE ρ vs) []).bind fun acc ρ2 => .ok (RV.own (PyData.list acc)) (backE ρ ρ2 vs) else .no) = _
  rw [hp, decide_eq_true (by rw [List.length_map]; exact hl), Bool.and_self, if_pos rfl, lcLoop_enc enc g p l [] h]
  simp [hb]
theorem mLc_of {α : Type} {m : MI} {vs : List Nat} {t : MT} {e : ME} {ρ ρ0 : Env} (l : List α) (enc g : α → D) (hm : m ρ0 = .ok (l.map enc) ρ) (hp : noPar ρ vs = true) (hl : l.length ≤ LINE) (hb : backE ρ (wipeE ρ vs) vs = ρ)
    (h : ∀ a ∈ l, ∃ ρ1 r, t (enc a) (wipeE ρ vs) = some ρ1 ∧ e ρ1 = .ok r ρ1 ∧ frz [r] = some [g a] ∧ noPar ρ1 vs = true ∧ wipeE ρ1 vs = wipeE ρ vs) : mLc m vs t bYes e ρ0 = .ok (.own (.list (l.map g))) ρ := by
  have := mLc_if (c := bYes) l enc g (fun _ => true) hm hp hl hb fun d hd => by
    obtain ⟨ρ1, r, h1, h2, h3, h4, h5⟩ := h d hd
    exact ⟨ρ1, r, h1, rfl, fun _ => ⟨h2, h3⟩, h4, h5⟩
  rw [this, List.filter_eq_self.mpr (fun _ _ => rfl)]
/-! data of lists -/
theorem boolsF {α : Type} (p : α → Bool) : ∀ l : List α, bools (l.map fun a => PyData.bool (p a)) = some (l.map p)
  | [] => rfl
  | a :: r => by
    show (bools (r.map fun a => PyData.bool (p a))).map (p a :: ·) = _
    rw [boolsF p r]
    rfl
theorem dAll_map {α : Type} (p : α → Bool) (l : List α) : dAll (.list (l.map fun a => PyData.bool (p a))) = some (.dat (.bool (l.all p))) := by
  show (match bools (l.map fun a => PyData.bool (p a)) with
    | some bs => some (RV.dat (.bool (bs.all id)))
    | none => none) = _
  rw [boolsF]
  simp
theorem dIx_t {xs : List D} {i : Int} {n : Nat} {v : D} (hi : i = n) (h : xs[n]? = some v) : dIx (.tuple xs) (.int i) = some (.dat v) := by
  subst hi
  show (match L2.atI xs (n : Int) with
    | some d => some (RV.dat d)
    | none => none) = _
  rw [L2.atI_nat h]
theorem dIx_l {xs : List D} {i : Int} {n : Nat} {v : D} (hi : i = n) (h : xs[n]? = some v) : dIx (.list xs) (.int i) = some (.dat v) := by
  subst hi
  show (match L2.atI xs (n : Int) with
    | some d => some (RV.dat d)
    | none => none) = _
  rw [L2.atI_nat h]

theorem iRange2_run {a : MEs} {ρ ρ1 : Env} {i j : Int} (ha : a ρ = .ok [.dat (.int i), .dat (.int j)] ρ1) (h1 : rOk i = true) (h2 : rOk j = true) : iRange2 a ρ = .ok (rangeD i j) ρ1 := by
  unfold iRange2
  rw [ha]
  simp [h1, h2]
theorem iRange1_run {a : MEs} {ρ ρ1 : Env} {j : Int} (ha : a ρ = .ok [.dat (.int j)] ρ1) (h2 : rOk j = true) : iRange1 a ρ = .ok (rangeD 0 j) ρ1 := by
  unfold iRange1
  rw [ha]
  simp [h2]
theorem rOk_mk {i : Int} (h1 : -4611686018427387904 ≤ i) (h2 : i < 4611686018427387904) : rOk i = true := by
  cases i with
  | ofNat n =>
    have e : Int.ofNat n = (n : Int) := rfl
    rw [e] at h1 h2
    exact Nat.ble_eq_true_of_le (show n ≤ 4611686018427387903 by omega)
  | negSucc n =>
    rw [Int.negSucc_eq] at h1 h2
    exact Nat.ble_eq_true_of_le (show n ≤ 4611686018427387903 by omega)
theorem rangeD_n (a b : Int) (n : Nat) (h : (b - a).toNat = n) : rangeD a b = (List.range n).map fun (i : Nat) => .int (a + (i : Int)) := by
  unfold rangeD
  rw [h]
/-- what a def ends with -/
theorem Ev_of {n : Nat} {m : MS} {ds : List D} {r : D} {ρ' : Env} (h : m (entry n (ds.map SV.dat)) = .ret (.dat r) ρ') : Ev (fn n m) ds r := by
  refine ⟨outsOf (ds.map SV.dat).length ρ', ?_⟩
  unfold fn
  rw [h]
  rfl
theorem Ev_none {n : Nat} {m : MS} {ds : List D} {ρ' : Env} (h : m (entry n (ds.map SV.dat)) = .next ρ') : Ev (fn n m) ds .none := by
  refine ⟨outsOf (ds.map SV.dat).length ρ', ?_⟩
  unfold fn
  rw [h]
  rfl
theorem EvO_of {n : Nat} {m : MS} {ds : List D} {r : D} {ρ' : Env} (h : m (entry n (ds.map SV.dat)) = .ret (.own r) ρ') : EvO (fn n m) ds r := by
  refine ⟨outsOf (ds.map SV.dat).length ρ', ?_⟩
  unfold fn
  rw [h]
  rfl
theorem EvX_of {n : Nat} {m : MS} {ds : List D} {x : Str} {ρ' : Env} (h : m (entry n (ds.map SV.dat)) = .exc ⟨x, []⟩ ρ') : EvX (fn n m) ds x := by
  unfold EvX fn
  rw [h]
  have : hasPar (ds.map SV.dat) = false := by
    unfold hasPar
    rw [List.any_eq_false]
    intro sv hs
    obtain ⟨d, _, rfl⟩ := List.mem_map.mp hs
    simp
  unfold finish
  rw [this]
  rfl
end PD

namespace PD
open PySem
/-! ### small data: may be compared -/
def Sm (n : Nat) (d : D) : Prop := d.plain = true ∧ d.depth ≤ n
theorem Sm.mono {n m : Nat} {d : D} (h : Sm n d) (k : n ≤ m) : Sm m d := ⟨h.1, Nat.le_trans h.2 k⟩
theorem Sm_int (n : Nat) (i : Int) : Sm n (.int i) := ⟨rfl, Nat.zero_le _⟩
theorem Sm_str (n : Nat) (i : Str) : Sm n (.str i) := ⟨rfl, Nat.zero_le _⟩
theorem Sm_bool (n : Nat) (i : Bool) : Sm n (.bool i) := ⟨rfl, Nat.zero_le _⟩
theorem Sm_none (n : Nat) : Sm n .none := ⟨rfl, Nat.zero_le _⟩
theorem Sm_all {n : Nat} : ∀ xs : List D, (∀ x ∈ xs, Sm n x) → PyData.plainAll xs = true ∧ PyData.depthAll xs ≤ n
  | [], _ => ⟨rfl, Nat.zero_le _⟩
  | x :: xs, h => by
    obtain ⟨h1, h2⟩ := h x List.mem_cons_self
    obtain ⟨h3, h4⟩ := Sm_all xs fun y hy => h y (List.mem_cons_of_mem _ hy)
    exact ⟨by simp [PyData.plainAll, h1, h3], by simp only [PyData.depthAll]; omega⟩
theorem Sm_tuple {n : Nat} {xs : List D} (h : ∀ x ∈ xs, Sm n x) : Sm (n + 1) (.tuple xs) := by
  obtain ⟨h1, h2⟩ := Sm_all xs h
  exact ⟨by simp only [PyData.plain]; exact h1, by simp only [PyData.depth]; omega⟩
theorem Sm_list {n : Nat} {xs : List D} (h : ∀ x ∈ xs, Sm n x) : Sm (n + 1) (.list xs) := by
  obtain ⟨h1, h2⟩ := Sm_all xs h
  exact ⟨by simp only [PyData.plain]; exact h1, by simp only [PyData.depth]; omega⟩
theorem eqOk_sm {n : Nat} {d e : D} (h : Sm n d) (k : Sm n e) (hn : n ≤ 64) : eqOk d e = true := by
  unfold eqOk
  rw [h.1, k.1, Bool.and_self, Bool.true_and]
  have := h.2
  exact decide_eq_true (by omega)
theorem dEq_sm {n : Nat} {d e : D} (h : Sm n d) (k : Sm n e) (hn : n ≤ 64 := by omega) : dEq d e = some (.dat (.bool (PyData.eqv d e))) := by
  unfold dEq
  rw [if_pos (eqOk_sm h k hn)]
theorem dNe_sm {n : Nat} {d e : D} (h : Sm n d) (k : Sm n e) (hn : n ≤ 64 := by omega) : dNe d e = some (.dat (.bool (!PyData.eqv d e))) := by
  unfold dNe
  rw [if_pos (eqOk_sm h k hn)]
theorem dEq_same {n : Nat} {d : D} (h : Sm n d) (hn : n ≤ 64 := by omega) : dEq d d = some (.dat (.bool true)) := by
  rw [dEq_sm h h hn, PySem.SeqAt.eqv_refl_plain d h.1]
theorem dNe_same {n : Nat} {d : D} (h : Sm n d) (hn : n ≤ 64 := by omega) : dNe d d = some (.dat (.bool false)) := by
  rw [dNe_sm h h hn, PySem.SeqAt.eqv_refl_plain d h.1]
  rfl
/-! ints again -/
def Sml (i : Int) : Prop := -18446744073709551616 < i ∧ i < 18446744073709551616
theorem mulOk_l {i j : Int} (h : Sml i) : mulOk i j = true := by
  unfold mulOk
  rw [decide_eq_true (show -(2 ^ 64) < i ∧ i < 2 ^ 64 from ⟨by have := h.1; simpa using this, by have := h.2; simpa using this⟩)]
  rfl
theorem dMul_l {i j : Int} (h : Sml i) : dMul (.int i) (.int j) = some (.dat (.int (i * j))) := by
  show (if mulOk i j then some (RV.dat (.int (i * j))) else none) = _
  rw [mulOk_l h]
  rfl
theorem dDiv_p {i j : Int} (h : 0 < j) (k : j < 1073741824) : dDiv (.int i) (.int j) = some (.dat (.int (i / j))) := by
  show (if 0 < j then (if j < 1073741824 ∨ j.natAbs.log2 < 9000 then some (RV.dat (.int (i / j))) else none) else if j ≠ 0 ∧ j.natAbs < 1073741824 then some (.dat (.int (i.fdiv j))) else none) = _
  rw [if_pos h, if_pos (.inl k)]
theorem dMod_p {i j : Int} (h : 0 < j) : dMod (.int i) (.int j) = some (.dat (.int (i % j))) := by
  show (if 0 < j then some (RV.dat (.int (i % j))) else if j ≠ 0 then some (.dat (.int (i.fmod j))) else none) = _
  rw [if_pos h]
@[simp] theorem dNeg_int (i : Int) : dNeg (.int i) = some (.dat (.int (-i))) := (rfl)
@[simp] theorem dInt_int (i : Int) : dInt (.int i) = some (.dat (.int i)) := (rfl)
@[simp] theorem dAbs_int (i : Int) : dAbs (.int i) = some (.dat (.int (if i < 0 then -i else i))) := (rfl)
@[simp] theorem dLen_t (xs : List D) : dLen (.tuple xs) = some (.dat (.int xs.length)) := (rfl)
@[simp] theorem dLen_l (xs : List D) : dLen (.list xs) = some (.dat (.int xs.length)) := (rfl)
@[simp] theorem dTuple_l (xs : List D) : dTuple (.list xs) = some (.dat (.tuple xs)) := (rfl)
@[simp] theorem dTuple_t (xs : List D) : dTuple (.tuple xs) = some (.dat (.tuple xs)) := (rfl)
@[simp] theorem dRev_t (xs : List D) : dRev (.tuple xs) = some (.dat (.tuple xs.reverse)) := (rfl)
@[simp] theorem dRev_l (xs : List D) : dRev (.list xs) = some (.own (.list xs.reverse)) := (rfl)
theorem dSum_l (ns : List Int) : dSum (.list (ns.map PyData.int)) = some (.dat (.int ns.sum)) := by
  show (intsD (ns.map PyData.int)).map _ = _
  rw [intsD_map]
  rfl
theorem dSum_t (ns : List Int) : dSum (.tuple (ns.map PyData.int)) = some (.dat (.int ns.sum)) := by
  show (intsD (ns.map PyData.int)).map _ = _
  rw [intsD_map]
  rfl
/-! places -/
theorem at_nat (xs : List D) (n : Nat) : L2.atI xs (n : Int) = xs[n]? := by
  by_cases h : n < xs.length
  · rw [L2.atI_nat (List.getElem?_eq_getElem h), List.getElem?_eq_getElem h]
  · show (L2.ixN xs.length n).bind _ = _
    unfold L2.ixN
    rw [if_pos (by omega), if_neg (by omega)]
    rw [List.getElem?_eq_none (by omega)]
    rfl
theorem at_last (xs : List D) (h : xs ≠ []) : L2.atI xs (-1) = xs.getLast? := by
  have hl : 0 < xs.length := List.length_pos_iff.mpr h
  unfold L2.atI L2.ixN
  rw [if_neg (by omega), if_pos (by omega)]
  show xs[((-1 : Int) + xs.length).toNat]? = _
  rw [List.getLast?_eq_getElem?]
  congr 1
  omega
theorem dIx_tl {xs : List D} {v : D} (h : xs.getLast? = some v) : dIx (.tuple xs) (.int (-1)) = some (.dat v) := by
  show (match L2.atI xs (-1) with
    | some d => some (RV.dat d)
    | none => none) = _
  rw [at_last xs (by intro e; subst e; cases h), h]
theorem dIx_ll {xs : List D} {v : D} (h : xs.getLast? = some v) : dIx (.list xs) (.int (-1)) = some (.dat v) := by
  show (match L2.atI xs (-1) with
    | some d => some (RV.dat d)
    | none => none) = _
  rw [at_last xs (by intro e; subst e; cases h), h]
theorem cut_from1 (xs : List D) : cutD xs (some 1) none = xs.drop 1 := by
  show (xs.drop (min (1 : Int).toNat xs.length)).take (xs.length - (min (1 : Int).toNat xs.length)) = _
  cases xs with
  | nil => rfl
  | cons x xs => simp
theorem cut_to (xs : List D) (n : Nat) : cutD xs none (some (n : Int)) = xs.take n := by
  show (xs.drop 0).take (HT.sIx xs.length xs.length (some (n : Int)) - 0) = _
  rw [HT.sIx_nat, List.drop_zero, Nat.sub_zero]
  by_cases h : n ≤ xs.length
  · rw [Nat.min_eq_left h]
  · rw [Nat.min_eq_right (by omega), List.take_of_length_le (Nat.le_refl _), List.take_of_length_le (by omega)]
theorem cut_last (xs : List D) : cutD xs (some (-1)) none = xs.drop (xs.length - 1) := by
  show (xs.drop ((-1 : Int) + xs.length).toNat).take (xs.length - ((-1 : Int) + xs.length).toNat) = _
  have : ((-1 : Int) + xs.length).toNat = xs.length - 1 := by omega
  rw [this, List.take_of_length_le (by rw [List.length_drop]; exact Nat.le_refl _)]
theorem cut_init (xs : List D) : cutD xs none (some (-1)) = xs.dropLast := by
  show (xs.drop 0).take (((-1 : Int) + xs.length).toNat - 0) = _
  have : ((-1 : Int) + xs.length).toNat = xs.length - 1 := by omega
  rw [this, List.dropLast_eq_take]
  rfl
/-! more combinators, unrolled -/
section
variable {α β : Type} (ρ : Env)
@[simp] theorem r_oNone : oNone ρ = .ok none ρ := (rfl)
@[simp] theorem r_oSome (a : ME) : oSome a ρ = (a ρ).bind fun x ρ1 => match x with
  | .dat (.int i) => .ok (some i) ρ1
  | _ => .no := (rfl)
@[simp] theorem r_dSlice1 (xs : List D) (lo hi : Option Int) : dSlice (.list xs) lo hi = some (.own (.list (cutD xs lo hi))) := (rfl)
@[simp] theorem r_dSlice2 (xs : List D) (lo hi : Option Int) : dSlice (.tuple xs) lo hi = some (.dat (.tuple (cutD xs lo hi))) := (rfl)
@[simp] theorem r_mSlice (a : ME) (lo hi : MO) : mSlice a lo hi ρ = (a ρ).bind fun x ρ1 => (lo ρ1).bind fun l ρ2 => (hi ρ2).bind fun h ρ3 => match x.get ρ3 with
  | some d => match dSlice d l h with
    | some r => .ok r ρ3
    | none => .no
  | none => .no := (rfl)
@[simp] theorem r_seqD1 (xs : List D) : seqD (.list xs) = some xs := (rfl)
@[simp] theorem r_seqD2 (xs : List D) : seqD (.tuple xs) = some xs := (rfl)
@[simp] theorem r_seqS1 (xs : List D) : seqS (.list xs) = some xs := (rfl)
@[simp] theorem r_seqS2 (xs : List D) : seqS (.tuple xs) = some xs := (rfl)
@[simp] theorem r_seqS3 (x : Str) : seqS (.str x) = some (x.cps.toList.map fun c => .str ⟨#[c]⟩) := (rfl)
@[simp] theorem r_iSeq (a : ME) : iSeq a ρ = (a ρ).bind fun r ρ1 => match frz [r] with
  | some [d] => match seqS d with
    | some ds => .ok ds ρ1
    | none => .no
  | _ => .no := (rfl)
@[simp] theorem r_iZipA (a : MEs) : iZipA a ρ = (a ρ).bind fun rs ρ1 => match frz rs with
  | some [d, e] => match seqD d, seqD e with
    | some ds, some es => .ok (zipD ds es) ρ1
    | _, _ => .no
  | _ => .no := (rfl)
@[simp] theorem r_tgts1 : tgts [] [] ρ = some ρ := (rfl)
@[simp] theorem r_tgts2 (t : MT) (ts : List MT) (d : D) (ds : List D) : tgts (t :: ts) (d :: ds) ρ = (t d ρ).bind (tgts ts ds) := (rfl)
@[simp] theorem r_tTup (ts : List MT) (ds : List D) : tTup ts (.tuple ds) ρ = tgts ts ds ρ := (rfl)
@[simp] theorem r_sTgt (t : MT) (m : ME) : sTgt t m ρ = (m ρ).bindS fun r ρ1 => match frz [r] with
  | some [d] => match t d ρ1 with
    | some ρ2 => .next ρ2
    | none => .no
  | _ => .no := (rfl)
@[simp] theorem r_sFor (m : MI) (t : MT) (b : MS) : sFor m t b ρ = (m ρ).bindS fun ds ρ1 => forLoop t b ds ρ1 := (rfl)
@[simp] theorem r_mutL (i : Nat) : mutL ρ i = match ρ[i]? with
  | some (some (.own (.list ds))) => some ds
  | some (some (.par (.list ds))) => some ds
  | _ => none := (rfl)
@[simp] theorem r_putSlot (i : Nat) (d : D) : putSlot ρ i d = match ρ[i]? with
  | some (some (.own _)) => ρ.set i (some (.own d))
  | some (some (.par _)) => ρ.set i (some (.par d))
  | _ => ρ := (rfl)
@[simp] theorem r_sSetIx (i : Nat) (ix m : ME) : sSetIx i ix m ρ = (m ρ).bindS fun r ρ1 => match frz [r], mutL ρ1 i with
  | some [d], some _ => (ix ρ1).bindS fun k ρ2 => match k, mutL ρ2 i with
    | .dat (.int n), some ds => match L2.ixN ds.length n with
      | some j => .next (putSlot ρ2 i (.list (ds.set j d)))
      | none => .no
    | _, _ => .no
  | _, _ => .no := (rfl)
@[simp] theorem r_mAppend (i : Nat) (m : MEs) : mAppend i m ρ = if (mutL ρ i).isSome then (m ρ).bind fun rs ρ1 => match mutL ρ1 i, frz rs with
    | some ds, some [d] => if ds.length < LINE then .ok (.dat .none) (putSlot ρ1 i (.list (ds ++ [d]))) else .no
    | _, _ => .no
  else .no := (rfl)
@[simp] theorem r_mExtend (i : Nat) (m : MEs) : mExtend i m ρ = if (mutL ρ i).isSome then (m ρ).bind fun rs ρ1 => match mutL ρ1 i, rs with
    | some ds, [.own (.list es)] => if ds.length + es.length ≤ LINE then .ok (.dat .none) (putSlot ρ1 i (.list (ds ++ es))) else .no
    | _, _ => .no
  else .no := (rfl)
@[simp] theorem r_mPop (i : Nat) : mPop i ρ = match mutL ρ i with
  | some ds => match ds.getLast? with
    | some d => .ok (.dat d) (putSlot ρ i (.list ds.dropLast))
    | none => .no
  | none => .no := (rfl)
end
/-! statements in a row -/
theorem seqN {a b : MS} {ρ ρ1 : Env} {o : SO} (h : a ρ = .next ρ1) (k : b ρ1 = o) : sSeq a b ρ = o := by
  show (a ρ).bind b = o
  rw [h]
  exact k
theorem seqR {a b : MS} {ρ ρ1 : Env} {r : RV} (h : a ρ = .ret r ρ1) : sSeq a b ρ = .ret r ρ1 := by
  show (a ρ).bind b = _
  rw [h]
  rfl
theorem seqX {a b : MS} {ρ ρ1 : Env} {e : Exc} (h : a ρ = .exc e ρ1) : sSeq a b ρ = .exc e ρ1 := by
  show (a ρ).bind b = _
  rw [h]
  rfl
theorem ifN {c : MB} {a b : MS} {ρ ρ1 : Env} {o : SO} (h : c ρ = .ok false ρ1) (k : b ρ1 = o) : sIf c a b ρ = o := by
  show (c ρ).bindS _ = o
  rw [h]
  exact k
theorem ifY {c : MB} {a b : MS} {ρ ρ1 : Env} {o : SO} (h : c ρ = .ok true ρ1) (k : a ρ1 = o) : sIf c a b ρ = o := by
  show (c ρ).bindS _ = o
  rw [h]
  exact k
theorem forN {m : MI} {t : MT} {b : MS} {ρ ρ1 : Env} {ds : List D} {o : SO} (h : m ρ = .ok ds ρ1) (k : forLoop t b ds ρ1 = o) : sFor m t b ρ = o := by
  show (m ρ).bindS _ = o
  rw [h]
  exact k
/-- a loop over a list of things -/
theorem forLoop_of {α S : Type} {t : MT} {b : MS} (enc : α → D) (R : S → Env → Prop) (step : S → α → S) : ∀ (l : List α) (s : S) (ρ : Env), (∀ s ρ a, a ∈ l → R s ρ → ∃ ρ1 ρ2, t (enc a) ρ = some ρ1 ∧ b ρ1 = .next ρ2 ∧ R (step s a) ρ2) → R s ρ → ∃ ρ', forLoop t b (l.map enc) ρ = .next ρ' ∧ R (l.foldl step s) ρ'
  | [], s, ρ, _, r => ⟨ρ, rfl, r⟩
  | d :: ds, s, ρ, h, r => by
    obtain ⟨ρ1, ρ2, h1, h2, h3⟩ := h s ρ d List.mem_cons_self r
    obtain ⟨ρ', q1, q2⟩ := forLoop_of enc R step ds (step s d) ρ2 (fun s ρ d hd => h s ρ d (List.mem_cons_of_mem _ hd)) h3
    refine ⟨ρ', ?_, q2⟩
    rw [List.map_cons]
    unfold forLoop
    rw [h1]
    dsimp only
    rw [h2]
    exact q1
theorem zipD_map {α β : Type} (f : α → D) (g : β → D) : ∀ (xs : List α) (ys : List β), zipD (xs.map f) (ys.map g) = (xs.zip ys).map fun p => .tuple [f p.1, g p.2]
  | [], _ => by simp [zipD]
  | _ :: _, [] => by simp [zipD]
  | x :: xs, y :: ys => by
    simp only [List.map_cons, zipD, List.zip_cons_cons]
    rw [zipD_map f g xs ys]
end PD
namespace PD
open PySem
/-- a loop that returns at the first thing that fits -/
theorem forLoop_find {α : Type} {t : MT} {b : MS} (enc : α → D) (R : Env → Prop) (p : α → Bool) (g : α → D) : ∀ (l : List α) (ρ : Env), (∀ ρ a, a ∈ l → R ρ → ∃ ρ1 ρ2, t (enc a) ρ = some ρ1 ∧ ((p a = false ∧ b ρ1 = .next ρ2 ∧ R ρ2) ∨ (p a = true ∧ b ρ1 = .ret (.dat (g a)) ρ2))) → R ρ →
    (∃ a ρ', l.find? p = some a ∧ forLoop t b (l.map enc) ρ = .ret (.dat (g a)) ρ') ∨ (∃ ρ', l.find? p = none ∧ forLoop t b (l.map enc) ρ = .next ρ' ∧ R ρ')
  | [], ρ, _, r => .inr ⟨ρ, rfl, rfl, r⟩
  | d :: ds, ρ, h, r => by
    obtain ⟨ρ1, ρ2, h1, h2⟩ := h ρ d List.mem_cons_self r
    rw [List.map_cons, List.find?_cons]
    unfold forLoop
    rw [h1]
    dsimp only
    rcases h2 with ⟨h3, h4, h5⟩ | ⟨h3, h4⟩
    · rw [h3, h4]
      exact forLoop_find enc R p g ds ρ2 (fun ρ d hd => h ρ d (List.mem_cons_of_mem _ hd)) h5
    · rw [h3, h4]
      exact .inl ⟨d, ρ2, rfl, rfl⟩
theorem seqB {a b : MS} {ρ : Env} {o x : SO} (h : a ρ = x) (k : x.bind b = o) : sSeq a b ρ = o := by
  subst h
  exact k
end PD
namespace PD
open PySem
/-- a list of its own, handed back by its name -/
theorem EvO_bor {n : Nat} {m : MS} {ds : List D} {r : D} {ρ' : Env} {i : Nat} (h : m (entry n (ds.map SV.dat)) = .ret (.bor i) ρ') (k : ρ'[i]? = some (some (.own r))) : EvO (fn n m) ds r := by
  refine ⟨outsOf (ds.map SV.dat).length ρ', ?_⟩
  unfold fn
  rw [h]
  show (match ρ'[i]? with
      | some (some (.own d)) => FO.ok (.own d) (outsOf (ds.map SV.dat).length ρ')
      | some (some (.dat d)) => .ok (.dat d) (outsOf (ds.map SV.dat).length ρ')
      | _ => .no) = _
  rw [k]
/-! defs that change the list handed first -/
def EvP (f : FS) (h : List D) (ds : List D) (r : SV) (h' : List D) : Prop := ∃ outs, f (.par (.list h) :: ds.map SV.dat) = .ok r (.list h' :: outs)
theorem EvP_dat {n : Nat} {m : MS} {h : List D} {ds : List D} {r : D} {ρ' : Env} {h' : List D} (q : m (entry n (.par (.list h) :: ds.map SV.dat)) = .ret (.dat r) ρ') (k : ρ'[0]? = some (some (.par (.list h')))) : EvP (fn n m) h ds (.dat r) h' := by
  refine ⟨(outsOf (ds.length + 1) ρ').tail, ?_⟩
  unfold fn
  rw [q]
  show FO.ok (.dat r) (outsOf (ds.map SV.dat).length.succ ρ') = _
  rw [List.length_map]
  congr 1
  unfold outsOf
  rw [List.range_succ_eq_map]
  show ((slotD ρ' 0).getD PyData.none) :: _ = _
  rw [r_slotD, k]
  rfl
theorem callK_evP {f : FS} {h : List D} {ds : List D} {r : D} {h' : List D} (q : EvP f h ds (.dat r) h') {n : Nat} (ρ : Env) {i : Nat} (k : slotD ρ i = some (.list h)) (ka : argOf ρ (.bor i) = some (.par (.list h))) (hn : ds.length + 1 = n := by rfl) : callK n f ρ (.bor i :: ds.map RV.dat) = .ok (.dat r) (putSlot ρ i (.list h')) := by
  subst hn
  obtain ⟨outs, q⟩ := q
  unfold callK
  have hb : bors (RV.bor i :: ds.map RV.dat) = [i] := by
    show i :: bors (ds.map RV.dat) = _
    rw [bors_dats]
  have ha : argsOf ρ (RV.bor i :: ds.map RV.dat) = some (.par (.list h) :: ds.map SV.dat) := by
    show (match argOf ρ (.bor i), argsOf ρ (ds.map RV.dat) with
      | some a, some as => some (a :: as)
      | _, _ => none) = _
    rw [ka, argsOf_dats]
  rw [hb, ha]
  simp only [List.length_cons, List.length_map, List.nodup_cons, List.not_mem_nil, not_false_eq_true, List.nodup_nil, and_self, if_true, q, retV]
  congr 1
  show putOuts (putSlot ρ i (.list h')) (ds.map RV.dat) outs = _
  exact putOuts_dats _ _ _ (bors_dats ds)
end PD

namespace PD
open PySem PySem.Spec PyProof.Rows L2
/-! ### min, max, sorted of alike data; isinstance with a tuple of classes -/
def alikeB (xs : List D) : Bool := xs.all fun x => xs.all fun y => PySem.W.alike x y
def notNone : D → Bool
  | .none => false
  | _ => true
def mmOk (xs : List D) : Bool := PyData.plainAll xs && alikeB xs && xs.all notNone && decide (PyData.depthAll xs ≤ 60)
theorem alikeB_of {xs : List D} (h : alikeB xs = true) : ∀ x ∈ xs, ∀ y ∈ xs, PySem.W.alike x y = true := fun x hx y hy =>
  List.all_eq_true.mp (List.all_eq_true.mp h x hx) y hy
theorem mmOk_of {xs : List D} (h : mmOk xs = true) : PyData.plainAll xs = true ∧ PySem.W.AlikeAll xs ∧ PyData.depthAll xs ≤ 60 := by
  simp only [mmOk, Bool.and_eq_true, decide_eq_true_eq] at h
  refine ⟨h.1.1.1, ⟨alikeB_of h.1.1.2, fun x hx e => ?_⟩, h.2⟩
  have := List.all_eq_true.mp h.1.2 x hx
  rw [e] at this
  exact absurd this (by decide)
theorem vals_at : ∀ {xs : List V} {us : List Value} {i : Nat} {u : Value}, Vals xs us → us[i]? = some u → ∃ x, xs[i]? = some x ∧ RelV x u
  | _, _, _, _, .nil, e => by simp at e
  | _, _, 0, _, .cons r _, e => by simp at e; subst e; exact ⟨_, rfl, r⟩
  | _, _, i + 1, _, .cons _ t, e => by
    obtain ⟨x, h1, h2⟩ := vals_at (i := i) t (by simpa using e)
    exact ⟨x, by simpa using h1, h2⟩
theorem plain_at : ∀ {xs : List D}, PyData.plainAll xs = true → ∀ x ∈ xs, x.plain = true := fun h x hx => PySem.W.plain_mem h hx
section
variable {X : Cx}
def rMM (X : Cx) (best : D → List D → D) : List V → Hp → VK → Prop := fun vs H Q => ∃ (a : Addr) (xs : List V) (d : D) (ds : List D), vs = [V.ref a] ∧ (SqL X.K H a xs ∨ SqT X.K H a xs) ∧ DpAll X.K H xs (d :: ds) ∧ mmOk (d :: ds) = true ∧
  ∀ (i : Nat) (v : V), xs[i]? = some v → (d :: ds)[i]? = some (best d ds) → Q v H
theorem mm_end {best : D → List D → D} {xs : List V} {its : List Value} {d : D} {ds : List D} {as bs : List Addr} {s : Shared} {h' : Heap} {i : Nat} {u : Value} {H : Hp} {Q : VK} (hp : PyData.plainAll (d :: ds) = true) (rv : Vals xs its) (hr : ReadsAll s.heap its (d :: ds) as) (hv : its[i]? = some u)
    (rd : Reads h' u (best d ds) bs) (hk : ∀ b o, s.heap.get? b = some o → h'.get? b = some o) (q : ∀ (i : Nat) (v : V), xs[i]? = some v → (d :: ds)[i]? = some (best d ds) → Q v H) : ∃ x, RelV x u ∧ Q x H := by
  obtain ⟨x, e1, e2⟩ := vals_at rv hv
  obtain ⟨bs1, r1, hi, hm, _⟩ := PySem.W.readsAll_at hr i u hv
  refine ⟨x, e2, q i x e1 ?_⟩
  have e : (d :: ds).getD i .none = best d ds := PySem.SeqAt.plain_unique _ _ _ _ _ (plain_at hp _ hm) (PySem.W.reads_keeps hk r1) rd
  rw [← e, List.getD_eq_getElem?_getD, List.getElem?_eq_getElem hi]
  rfl
theorem cr_minP (hc : X.calm = true) (hu : X.A.units + 64 < cLine) : CallR X (.builtin "min") (rMM X PySem.W.minD) := by
  intro pins s σ H vs us Q I r h
  obtain ⟨a, xs, d, ds, rfl, hs, hd, ok, q⟩ := h
  obtain ⟨h1, h2, h3⟩ := mmOk_of ok
  rw [Vals.ref1 r]
  rcases hs with hs | hs
  · obtain ⟨its, rv, hl, hz⟩ := I.list hs
    obtain ⟨as, hr⟩ := Dp.readsAll I (d :: ds) xs its hd rv
    refine PySem.W.min_list_data (I.ok.hd hc) hl.isList (show ReadsAll s.heap its.toArray.toList (d :: ds) as from hr) h2 (by omega) fun i v h' tk bs hv rd hk => ?_
    obtain ⟨x, rx, qx⟩ := mm_end h1 rv hr (by simpa using hv) rd hk q
    exact ⟨x, H, I.kept hk, rx, qx⟩
  · obtain ⟨its, rv, hl, hz⟩ := I.tuple hs
    obtain ⟨as, hr⟩ := Dp.readsAll I (d :: ds) xs its hd rv
    refine PySem.W.min_tuple_data (I.ok.hd hc) hl (show ReadsAll s.heap its.toArray.toList (d :: ds) as from hr) h2 (by omega) fun i v h' tk bs hv rd hk => ?_
    obtain ⟨x, rx, qx⟩ := mm_end h1 rv hr (by simpa using hv) rd hk q
    exact ⟨x, H, I.kept hk, rx, qx⟩
theorem cr_maxP (hc : X.calm = true) (hu : X.A.units + 64 < cLine) : CallR X (.builtin "max") (rMM X PySem.W.maxD) := by
  intro pins s σ H vs us Q I r h
  obtain ⟨a, xs, d, ds, rfl, hs, hd, ok, q⟩ := h
  obtain ⟨h1, h2, h3⟩ := mmOk_of ok
  rw [Vals.ref1 r]
  rcases hs with hs | hs
  · obtain ⟨its, rv, hl, hz⟩ := I.list hs
    obtain ⟨as, hr⟩ := Dp.readsAll I (d :: ds) xs its hd rv
    refine PySem.W.max_list_data (I.ok.hd hc) hl.isList (show ReadsAll s.heap its.toArray.toList (d :: ds) as from hr) h2 (by omega) fun i v h' tk bs hv rd hk => ?_
    obtain ⟨x, rx, qx⟩ := mm_end h1 rv hr (by simpa using hv) rd hk q
    exact ⟨x, H, I.kept hk, rx, qx⟩
  · obtain ⟨its, rv, hl, hz⟩ := I.tuple hs
    obtain ⟨as, hr⟩ := Dp.readsAll I (d :: ds) xs its hd rv
    refine PySem.W.max_tuple_data (I.ok.hd hc) hl (show ReadsAll s.heap its.toArray.toList (d :: ds) as from hr) h2 (by omega) fun i v h' tk bs hv rd hk => ?_
    obtain ⟨x, rx, qx⟩ := mm_end h1 rv hr (by simpa using hv) rd hk q
    exact ⟨x, H, I.kept hk, rx, qx⟩
end
def dBest (best : D → List D → D) (two : Int → Int → Int) : List D → Option RV
  | [.list (x :: xs)] => if mmOk (x :: xs) then some (.dat (best x xs)) else none
  | [.tuple (x :: xs)] => if mmOk (x :: xs) then some (.dat (best x xs)) else none
  | [.int i, .int j] => some (.dat (.int (two i j)))
  | _ => none
def dMin : List D → Option RV := dBest PySem.W.minD fun i j => if j < i then j else i
def dMax : List D → Option RV := dBest PySem.W.maxD fun i j => if j > i then j else i
section
variable [Tab] [Zok] {X : Cx}
theorem sv_best {best : D → List D → D} {two : Int → Int → Int} : ServesN X (fun vs H Q => rMM X best vs H Q ∨ ∃ i j, vs = [.int i, .int j] ∧ Q (.int (two i j)) H) (dBest best two) := by
  intro W Z F ρ σ H H0 xs ds rv Q S hd t hf k
  cases t with
  | nil => cases hf
  | cons t1 t2 =>
    rename_i v1 vs1 d1 ds1
    cases t2 with
    | nil =>
      cases d1 with
      | list ys =>
        cases ys with
        | nil => cases hf
        | cons y ys =>
          simp only [dBest] at hf
          split at hf
          · rename_i ok
            cases hf
            obtain ⟨a, zs, rfl, ra, za, pa⟩ := t1.list
            refine .inl ⟨a, zs, y, ys, rfl, .inl (.inl ra), RepAll.dp (mmOk_of ok).1 pa, ok, fun i v e1 e2 => ?_⟩
            obtain ⟨d, g1, g2⟩ := RepAll.at pa e1
            rw [g1] at e2
            cases e2
            exact k.dat S g2
          · cases hf
      | tuple ys =>
        cases ys with
        | nil => cases hf
        | cons y ys =>
          simp only [dBest] at hf
          split at hf
          · rename_i ok
            cases hf
            obtain ⟨a, zs, rfl, ra, za, pa, _⟩ := t1.tuple
            refine .inl ⟨a, zs, y, ys, rfl, .inr ra, RepAll.dp (mmOk_of ok).1 pa, ok, fun i v e1 e2 => ?_⟩
            obtain ⟨d, g1, g2⟩ := RepAll.at pa e1
            rw [g1] at e2
            cases e2
            exact k.dat S g2
          · cases hf
      | _ => cases hf
    | cons t2 t3 =>
      rename_i v2 vs2 d2 ds2
      cases t3 with
      | nil =>
        cases d1 with
        | int i =>
          cases d2 with
          | int j =>
            cases hf
            exact .inr ⟨i, j, by rw [t1.int, t2.int], k.dat S (.int _)⟩
          | _ => cases hf
        | list ys => cases ys <;> cases hf
        | tuple ys => cases ys <;> cases hf
        | _ => cases hf
      | cons _ _ =>
        cases d1 with
        | int i => cases d2 <;> cases hf
        | list ys => cases ys <;> cases hf
        | tuple ys => cases ys <;> cases hf
        | _ => cases hf
theorem cs_min (hc : X.calm = true) (hu : X.A.units + 64 < cLine) : CallS X (.builtin "min") dMin := ⟨_, CallR.or (cr_minP hc hu) (call_min2 hc), sv_best⟩
theorem cs_max (hc : X.calm = true) (hu : X.A.units + 64 < cLine) : CallS X (.builtin "max") dMax := ⟨_, CallR.or (cr_maxP hc hu) (call_max2 hc), sv_best⟩
end
/-! sorted -/
def notTup : D → Bool
  | .none => false
  | .tuple _ => false
  | _ => true
def isTup1 : D → Bool
  | .tuple (_ :: _) => true
  | _ => false
def soOk (xs : List D) : Bool := PyData.plainAll xs && alikeB xs && (xs.all isTup1 || xs.all notTup) && decide (PyData.depthAll xs ≤ 60)
theorem soOk_of {xs : List D} (h : soOk xs = true) : PyData.plainAll xs = true ∧ PySem.W.AllAlike xs ∧ PySem.W.Sortable xs ∧ PyData.depthAll xs ≤ 60 := by
  simp only [soOk, Bool.and_eq_true, decide_eq_true_eq, Bool.or_eq_true] at h
  refine ⟨h.1.1.1, alikeB_of h.1.1.2, ?_, h.2⟩
  rcases h.1.2 with q | q
  · refine .inl fun d hd => ?_
    have := List.all_eq_true.mp q d hd
    cases d with
    | tuple ys =>
      cases ys with
      | nil => cases this
      | cons x r => exact ⟨x, r, rfl⟩
    | _ => cases this
  · refine .inr fun d hd => ?_
    have := List.all_eq_true.mp q d hd
    cases d with
    | tuple ys => cases this
    | none => cases this
    | _ => exact ⟨(fun z => nomatch z), fun _ z => nomatch z⟩
def leD (a b : D) : Bool := !PySem.W.dataLt b a
def sortD (xs : List D) : List D := xs.mergeSort leD
theorem depth_mem : ∀ {xs : List D} {x : D}, x ∈ xs → x.depth ≤ PyData.depthAll xs
  | y :: ys, x, h => by
    rw [PyData.depthAll]
    rcases List.mem_cons.mp h with rfl | h
    · exact Nat.le_max_left _ _
    · exact Nat.le_trans (depth_mem h) (Nat.le_max_right _ _)
section
variable {prog : Program} {w : World} {A : Around} {E : Value → Shared → Prop} {s : Shared}
open PySem.W PySem.Calls
theorem collect_tup {l : Addr} {vs : List Value} {Q : List Value → Shared → Prop} (hl : s.heap.IsTuple l vs.toArray)
    (h : Q vs { s with heap := (s.heap.push (seqObj "list" #[] 0)).update s.heap.objs.size (Obj.mapSeq (· ++ vs.toArray)) }) (hsz : vs.length ≤ sizeLine) :
    wpAny (model prog w) A (collect (.ref l)) Q E s := by
  obtain ⟨o, ho, hc, n, hd⟩ := id hl
  unfold collect
  refine wpAny_bind (wpAny_runValue (codeAny_builtin entry_proto_collect' ?_))
  show wpAny _ _ (do again (.builtin "list.__iadd__" ⟨[← newList [], .ref l], []⟩)) _ _ s
  refine wpAny_bind (wpAny_newList (wpAny_pure ⟨Code.quiet_builtin _ (by decide +kernel), codeAny_builtin entry_list_iadd' ?_⟩))
  show wpAny _ _ (Builtin.List.listExtendWith (.ref s.heap.objs.size) (.ref l) (.ref s.heap.objs.size)) _ _ { s with heap := s.heap.push (seqObj "list" #[] 0) }
  unfold Builtin.List.listExtendWith
  have ho' : (s.heap.push (seqObj "list" #[] 0)).get? l = some o := Heap.get?_push_of_some _ ho
  refine wpAny_bind (wpAny_typeOf (T := "tuple") ⟨o, ho', hc⟩ ?_)
  have ht : (Value.type "tuple" == Value.type "tuple") = true := by rfl
  rw [if_pos (by rw [ht]; simp)]
  refine wpAny_bind (listItems_at ho' hd ?_)
  refine wpAny_bind (listItems_at (xs := #[]) (n := 0) (Heap.get?_push_size _ rfl) rfl ?_)
  rw [if_neg (by simp)]
  refine wpAny_bind (listUpdate_at (xs := #[]) (n := 0) (Heap.get?_push_size _ rfl) rfl ?_ (Nat.zero_le _) (by show (#[] ++ vs.toArray).size ≤ sizeLine + 1; simp only [Array.size_append, List.size_toArray, List.length_nil]; omega))
  refine wpAny_pure ?_
  show wpAny (model prog w) A (do
      let o ← load s.heap.objs.size
      match o.data with
      | .seq xs _ => pure xs.toList
      | _ => unsupported "internal:collect") Q E { s with heap := (s.heap.push (seqObj "list" #[] 0)).update s.heap.objs.size (Obj.mapSeq (· ++ vs.toArray)) }
  refine wpAny_bind (wpAny_load (get?_update_seq (Heap.get?_push_size _ rfl) _) ?_)
  show wpAny _ _ (pure ((#[] : Array Value) ++ vs.toArray).toList) Q E _
  rw [show ((#[] : Array Value) ++ vs.toArray).toList = vs by simp]
  exact wpAny_pure h
theorem sorted_of_sortT {l : Addr} {vs : List Value} {kw : List (Str × Value)} {Q : Value → Shared → Prop} (hl : s.heap.IsTuple l vs.toArray) (hL : vs.length ≤ sizeLine) (ha1 : argsOk "sorted" ⟨[.ref l], kw⟩) (ha2 : ∀ x, argsOk "list.sort" ⟨[.ref x], kw⟩)
    (body : ∀ E' : Value → Shared → Prop, wpAny (model prog w) A.in1.in1 (Builtin.«list.sort» ⟨[.ref (s.heap.objs.size + 1)], kw⟩) (fun f s' => f = .done (.ret .none) ∧ Q (.ref (s.heap.objs.size + 1)) s') E' { s with heap := copyHeap s.heap vs }) :
    wpAny (model prog w) A (call (.builtin "sorted") [.ref l] kw) Q E s := by
  refine call_function_entry_kw kind_sorted plain_sorted entry_sorted ha1 ?_
  unfold Builtin.«sorted»
  refine wpAny_bind (m := checkCount "sorted" 1 1 _) (wpAny_pure ?_)
  refine wpAny_bind (collect_tup hl ?_ hL)
  refine wpAny_bind (wpAny_newList ?_ hL)
  have hsz : ((s.heap.push (seqObj "list" #[] 0)).update s.heap.objs.size (Obj.mapSeq (· ++ vs.toArray))).objs.size = s.heap.objs.size + 1 := by
    rw [Heap.size_update, size_push']
  show wpAny _ _ _ _ _ { s with heap := copyHeap s.heap vs }
  rw [hsz]
  refine wpAny_bind (wpAny_holding (wpAny_call_entry_kw slot_list_sort ⟨_, copyHeap_at s.heap vs, rfl⟩ entry_list_sort ?body (ha2 _)))
  case body =>
    show wpAny (model prog w) A.in1.in1 (Builtin.«list.sort» ⟨[.ref (s.heap.objs.size + 1)], kw⟩) _ _ _
    refine wpAny_mono (body _) (fun f s' hf => ?_) fun _ _ e => e
    obtain ⟨rfl, hq⟩ := hf
    exact ⟨_, rfl, wpAny_pure ⟨_, rfl, hq⟩⟩
theorem sorted_any {l : Addr} {vs : List Value} {β : Type} {bs : List β} {enc : β → PyData} {R : Value → β → Prop} {Q : Value → Shared → Prop} (hl : s.heap.IsList l vs.toArray ∨ s.heap.IsTuple l vs.toArray) (e : EachIs R vs bs) (er : EachIs (fun v b => ∃ as, Reads s.heap v (enc b) as) vs bs) (hal : AllAlike (bs.map enc)) (hk : Sortable (bs.map enc)) (hL : bs.length ≤ sizeLine)
    (hu : ∀ b, b ∈ bs → A.units + 2 + (enc b).depth < cLine) (h : ∀ out, out.length = bs.length → EachIs R out (bs.mergeSort (dataLe false enc)) → Q (.ref (s.heap.objs.size + 1)) { s with heap := PyProof.Rows.sortedAll s.heap vs (List.toArray out) }) :
    wpAny (model prog w) A (call (.builtin "sorted") [.ref l]) Q E s := by
  rcases hl with hl | hl
  · exact sorted_data hl e er hal hk hL hu h
  · have er' : EachIs (fun v b => ∃ as, Reads (sortingHeap (copyHeap s.heap vs) (s.heap.objs.size + 1) vs) v (enc b) as) vs bs := er.mono fun _ _ ⟨as, r⟩ => ⟨as, PyProof.Rows.Reads.keeps (fun _ _ => sorting_copy_old) r⟩
    have S := SortsAt.data (prog := prog) (w := w) (A := A.in1.in1) (s := { s with heap := sortingHeap (copyHeap s.heap vs) (s.heap.objs.size + 1) vs }) (each_map (R := fun v d => ∃ as, Reads (sortingHeap (copyHeap s.heap vs) (s.heap.objs.size + 1) vs) v d as) enc er') hal hk (bound_map hu)
    have hL' : vs.length ≤ sizeLine := by rw [e.length]; exact hL
    have hq := h _ (by rw [sortVals_length false rfl]; exact e.length) (sortVals_data false e er' hal)
    exact sorted_of_sortT hl hL' (args_sorted1 _) (fun _ => args_list_sort _) fun _ => list_sort_vals (s := { s with heap := copyHeap s.heap vs }) (copyHeap_at s.heap vs) S hL' ⟨rfl, hq⟩
end
section
variable {X : Cx}
def rSoP (X : Cx) : List V → Hp → VK → Prop := fun vs H Q => ∃ (a : Addr) (xs : List V) (ds : List D), vs = [V.ref a] ∧ (SqL X.K H a xs ∨ SqT X.K H a xs) ∧ xs.length ≤ sizeLine ∧ DpAll X.K H xs ds ∧ soOk ds = true ∧
  ∀ (zs : List (V × D)) (p : Addr), zs.Perm (xs.zip ds) → zs.map Prod.snd = sortD ds → H p = none → Q (.ref p) (upd H p (.lst (zs.map Prod.fst)))
theorem each_zip {s : Shared} {H : Hp} : ∀ {xs : List V} {us : List Value} {ds : List D} {as : List Addr}, Vals xs us → ReadsAll s.heap us ds as →
    PySem.W.EachIs (fun (u : Value) (p : V × D) => RelV p.1 u) us (xs.zip ds) ∧ PySem.W.EachIs (fun (u : Value) (p : V × D) => ∃ as, Reads s.heap u p.2 as) us (xs.zip ds) ∧ (xs.zip ds).map Prod.snd = ds
  | _, _, _, _, .nil, .nil => ⟨.nil, .nil, rfl⟩
  | _, _, _, _, .cons r t, .cons r' t' => by
    obtain ⟨h1, h2, h3⟩ := each_zip (H := H) t t'
    exact ⟨.cons r h1, .cons ⟨_, r'⟩ h2, by simp [h3]⟩
theorem vals_of_each : ∀ {us : List Value} {zs : List (V × D)}, PySem.W.EachIs (fun (u : Value) (p : V × D) => RelV p.1 u) us zs → Vals (zs.map Prod.fst) us
  | _, _, .nil => .nil
  | _, _, .cons h t => .cons h (vals_of_each t)
theorem cr_sortedP' (hu : X.A.units + 64 < cLine) : CallR X (.builtin "sorted") (rSoP X) := by
  intro pins s σ H vs us Q I r h
  obtain ⟨a, xs, ds, rfl, hs, hz, hd, ok, q⟩ := h
  obtain ⟨h1, h2, h3, h4⟩ := soOk_of ok
  rw [Vals.ref1 r]
  have key : ∃ its : List Value, Vals xs its ∧ (s.heap.IsList a its.toArray ∨ s.heap.IsTuple a its.toArray) := by
    rcases hs with hs | hs
    · obtain ⟨its, rv, hl, _⟩ := I.list hs
      exact ⟨its, rv, .inl hl.isList⟩
    · obtain ⟨its, rv, hl, _⟩ := I.tuple hs
      exact ⟨its, rv, .inr hl⟩
  obtain ⟨its, rv, hl⟩ := key
  obtain ⟨as, hr⟩ := Dp.readsAll I ds xs its hd rv
  obtain ⟨e1, e2, e3⟩ := each_zip (H := H) rv hr
  have hlen : (xs.zip ds).length = xs.length := by
    rw [List.length_zip, ← PySem.SeqAt.ReadsAll.length _ _ _ hr, rv.length]
    exact Nat.min_self _
  refine sorted_any (β := V × D) (enc := Prod.snd) (R := fun u p => RelV p.1 u) hl e1 e2 (by rw [e3]; exact h2) (by rw [e3]; exact h3) (by rw [hlen]; exact hz) (fun b hb => ?_) fun out ho eo => ?_
  · have hm : b.2 ∈ ds := by rw [← e3]; exact List.mem_map.mpr ⟨b, hb, rfl⟩
    have := depth_mem hm
    omega
  · obtain ⟨ep, he'⟩ := PyProof.Rows.sortedAll_at s.heap its out.toArray
    have hp : ((xs.zip ds).mergeSort (PySem.W.dataLe false Prod.snd)).Perm (xs.zip ds) := List.mergeSort_perm _ _
    have hsd : ((xs.zip ds).mergeSort (PySem.W.dataLe false Prod.snd)).map Prod.snd = sortD ds := by
      unfold sortD
      rw [List.map_mergeSort (r := PySem.W.dataLe false Prod.snd) (s := leD) (f := Prod.snd) (l := xs.zip ds) (fun _ _ _ _ => rfl), e3]
    have hl2 : (((xs.zip ds).mergeSort (PySem.W.dataLe false Prod.snd)).map Prod.fst).length ≤ sizeLine := by
      rw [List.length_map, hp.length_eq, hlen]
      exact hz
    exact ⟨.ref _, upd H (s.heap.objs.size + 1) (.lst (((xs.zip ds).mergeSort (PySem.W.dataLe false Prod.snd)).map Prod.fst)), I.laid (t' := s.toks) (fun _ _ => PyProof.Rows.sortedAll_old) (Nat.le_succ _) ⟨hl2, out, ep, vals_of_each eo, he'⟩, rfl, q _ _ hp hsd (I.hok.fresh (Nat.le_succ _))⟩
end
def dSorted : D → Option RV
  | .list xs => if soOk xs then some (.own (.list (sortD xs))) else none
  | .tuple xs => if soOk xs then some (.own (.list (sortD xs))) else none
  | _ => none
theorem repAll_zip {K : PySem.W.Frag} {F : Forb} {H : Hp} : ∀ {xs : List V} {ds : List D}, RepAll K F H xs ds → ∀ p ∈ xs.zip ds, Rep K F H p.1 p.2
  | _, _, .nil, p, hp => by simp at hp
  | _, _, .cons h t, p, hp => by
    rw [List.zip_cons_cons] at hp
    rcases List.mem_cons.mp hp with rfl | hp
    · exact h
    · exact repAll_zip t p hp
theorem repAll_perm {K : PySem.W.Frag} {F : Forb} {H : Hp} {xs : List V} {ds : List D} (r : RepAll K F H xs ds) {zs : List (V × D)} (hp : zs.Perm (xs.zip ds)) : RepAll K F H (zs.map Prod.fst) (zs.map Prod.snd) := by
  have each : ∀ p ∈ xs.zip ds, Rep K F H p.1 p.2 := by
    clear hp
    exact repAll_zip r
  have each' : ∀ p ∈ zs, Rep K F H p.1 p.2 := fun p h => each p (hp.mem_iff.mp h)
  clear hp each
  induction zs with
  | nil => exact .nil
  | cons z zs ih => exact .cons (each' z List.mem_cons_self) (ih fun p h => each' p (List.mem_cons_of_mem _ h))
section
variable [Tab] [Zok] {X : Cx}
theorem cs_sorted (hu : X.A.units + 64 < cLine) : CallS X (.builtin "sorted") (on1 dSorted) := by
  refine ⟨_, cr_sortedP' hu, sv1 ?_⟩
  intro W Z F ρ σ H H0 x d rv Q S hd tx hf k
  cases d with
  | list xs =>
    simp only [dSorted] at hf
    split at hf
    · rename_i ok
      cases hf
      obtain ⟨a, zs, rfl, ra, za, pa⟩ := tx.list
      refine ⟨a, zs, xs, rfl, .inl (.inl ra), za, RepAll.dp (soOk_of ok).1 pa, ok, fun ws p hp hs hn => ?_⟩
      have rr := repAll_perm pa hp
      rw [hs] at rr
      refine Post.lst k S rr ?_ hd p hn
      rw [rr.length, ← hs, List.length_map, hp.length_eq, List.length_zip, ← pa.length, Nat.min_self]
      exact za
    · cases hf
  | tuple xs =>
    simp only [dSorted] at hf
    split at hf
    · rename_i ok
      cases hf
      obtain ⟨a, zs, rfl, ra, za, pa, _⟩ := tx.tuple
      refine ⟨a, zs, xs, rfl, .inr ra, za, RepAll.dp (soOk_of ok).1 pa, ok, fun ws p hp hs hn => ?_⟩
      have rr := repAll_perm pa hp
      rw [hs] at rr
      refine Post.lst k S rr ?_ hd p hn
      rw [rr.length, ← hs, List.length_map, hp.length_eq, List.length_zip, ← pa.length, Nat.min_self]
      exact za
    · cases hf
  | _ => cases hf
end
end PD
namespace PD
open PySem PySem.Spec PyProof.Rows L2
theorem qb_no [Tab] [Zok] {X : Cx} {W : WX} {body : List Stmt} : QB X W body (fun _ => SO.no) :=
  ⟨fun pins s σ H D I hw => by obtain ⟨_, _, _, _, k⟩ := hw; exact k.elim⟩
end PD

namespace PD
open PySem
/-! ### what a body comes to, step by step -/
def Rets (r : D) (o : SO) : Prop := ∃ ρ, o = .ret (.dat r) ρ
def RetsO (r : D) (o : SO) : Prop := (∃ ρ, o = .ret (.own r) ρ) ∨ ∃ ρ i, o = .ret (.bor i) ρ ∧ ρ[i]? = some (some (.own r))
def Raises (x : Str) (o : SO) : Prop := ∃ ρ, o = .exc ⟨x, []⟩ ρ
/-- None, or nothing given back -/
def Ends (o : SO) : Prop := (∃ ρ, o = .next ρ) ∨ ∃ ρ, o = .ret (.dat .none) ρ
/-- what is given back, and the list handed first, changed -/
def RetsP (r : D) (h : List D) (o : SO) : Prop := ∃ ρ, o = .ret (.dat r) ρ ∧ ρ[0]? = some (some (.par (.list h)))
def RetsPO (r : D) (h : List D) (o : SO) : Prop := (∃ ρ, o = .ret (.own r) ρ ∧ ρ[0]? = some (some (.par (.list h)))) ∨ ∃ ρ i, o = .ret (.bor i) ρ ∧ ρ[i]? = some (some (.own r)) ∧ ρ[0]? = some (some (.par (.list h)))
/-- a loop's body -/
def Runs0 (N B : Env → Prop) (Q : SO → Prop) (o : SO) : Prop := match o with
  | .next ρ => N ρ
  | .cont ρ => N ρ
  | .brk ρ => B ρ
  | o => Q o
@[irreducible] def Runs (N B : Env → Prop) (Q : SO → Prop) (o : SO) : Prop := Runs0 N B Q o
theorem Runs_eq : Runs = Runs0 := by funext N B Q o; unfold Runs; rfl
section
variable (r d : D) (ρ : Env) (x : Str) (h : List D) (N B : Env → Prop) (Q : SO → Prop)
@[simp] theorem Rets_1 : Rets r (.ret (.dat d) ρ) ↔ d = r := ⟨fun ⟨_, e⟩ => by cases e; rfl, fun e => ⟨ρ, by rw [e]⟩⟩
@[simp] theorem RetsO_1 : RetsO r (.ret (.own d) ρ) ↔ d = r := ⟨fun q => (by
  rcases q with ⟨_, e⟩ | ⟨_, _, e, _⟩
  · cases e; rfl
  · cases e), fun e => .inl ⟨ρ, by rw [e]⟩⟩
@[simp] theorem RetsO_2 (i : Nat) : RetsO r (.ret (.bor i) ρ) ↔ ρ[i]? = some (some (.own r)) := ⟨fun q => (by
  rcases q with ⟨_, e⟩ | ⟨_, _, e, q⟩
  · cases e
  · cases e; exact q), fun e => .inr ⟨ρ, i, rfl, e⟩⟩
@[simp] theorem Raises_1 (y : Str) : Raises x (.exc ⟨y, []⟩ ρ) ↔ y = x := ⟨fun ⟨_, e⟩ => by cases e; rfl, fun e => ⟨ρ, by rw [e]⟩⟩
@[simp] theorem Ends_1 : Ends (.next ρ) ↔ True := ⟨fun _ => trivial, fun _ => .inl ⟨ρ, rfl⟩⟩
@[simp] theorem Ends_2 : Ends (.ret (.dat .none) ρ) ↔ True := ⟨fun _ => trivial, fun _ => .inr ⟨ρ, rfl⟩⟩
@[simp] theorem RetsP_1 : RetsP r h (.ret (.dat d) ρ) ↔ d = r ∧ ρ[0]? = some (some (.par (.list h))) := ⟨fun ⟨_, e, q⟩ => by cases e; exact ⟨rfl, q⟩, fun ⟨e, q⟩ => ⟨ρ, by rw [e], q⟩⟩
@[simp] theorem RetsPO_1 : RetsPO r h (.ret (.own d) ρ) ↔ d = r ∧ ρ[0]? = some (some (.par (.list h))) := ⟨fun q => (by
  rcases q with ⟨_, e, q⟩ | ⟨_, _, e, _⟩
  · cases e; exact ⟨rfl, q⟩
  · cases e), fun ⟨e, q⟩ => .inl ⟨ρ, by rw [e], q⟩⟩
@[simp] theorem RetsPO_2 (i : Nat) : RetsPO r h (.ret (.bor i) ρ) ↔ ρ[i]? = some (some (.own r)) ∧ ρ[0]? = some (some (.par (.list h))) := ⟨fun q => (by
  rcases q with ⟨_, e, q⟩ | ⟨_, _, e, q, k⟩
  · cases e
  · cases e; exact ⟨q, k⟩), fun ⟨q, k⟩ => .inr ⟨ρ, i, rfl, q, k⟩⟩
@[simp] theorem Runs_1 : Runs N B Q (.next ρ) = N ρ := by rw [Runs_eq]; rfl
@[simp] theorem Runs_2 : Runs N B Q (.cont ρ) = N ρ := by rw [Runs_eq]; rfl
@[simp] theorem Runs_3 : Runs N B Q (.brk ρ) = B ρ := by rw [Runs_eq]; rfl
@[simp] theorem Runs_4 (v : RV) : Runs N B Q (.ret v ρ) = Q (.ret v ρ) := by rw [Runs_eq]; rfl
@[simp] theorem Runs_5 (e : Exc) : Runs N B Q (.exc e ρ) = Q (.exc e ρ) := by rw [Runs_eq]; rfl
/-- the body goes on -/
def Goes (N : Env → Prop) (o : SO) : Prop := ∃ ρ, o = .next ρ ∧ N ρ
@[simp] theorem Goes_1 : Goes N (.next ρ) = N ρ := propext ⟨fun ⟨_, e, q⟩ => by cases e; exact q, fun q => ⟨ρ, rfl, q⟩⟩
end
theorem seq_eq (a b : MS) (ρ : Env) : sSeq a b ρ = (a ρ).bind b := rfl
@[simp] theorem ite_bind (p : Prop) [Decidable p] (a b : SO) (f : Env → SO) : (if p then a else b).bind f = if p then a.bind f else b.bind f := by split <;> rfl
/-! ends of defs -/
theorem Ev_go {n : Nat} {m m1 : MS} {ds : List D} {r : D} (e : m = m1) (h : Rets r (m1 (entry n (ds.map SV.dat)))) : Ev (fn n m) ds r := by
  subst e
  obtain ⟨ρ, h⟩ := h
  exact Ev_of h
theorem EvO_go {n : Nat} {m m1 : MS} {ds : List D} {r : D} (e : m = m1) (h : RetsO r (m1 (entry n (ds.map SV.dat)))) : EvO (fn n m) ds r := by
  subst e
  rcases h with ⟨ρ, h⟩ | ⟨ρ, i, h, k⟩
  · exact EvO_of h
  · exact EvO_bor h k
theorem EvX_go {n : Nat} {m m1 : MS} {ds : List D} {x : Str} (e : m = m1) (h : Raises x (m1 (entry n (ds.map SV.dat)))) : EvX (fn n m) ds x := by
  subst e
  obtain ⟨ρ, h⟩ := h
  exact EvX_of h
theorem EvN_go {n : Nat} {m m1 : MS} {ds : List D} (e : m = m1) (h : Ends (m1 (entry n (ds.map SV.dat)))) : Ev (fn n m) ds .none := by
  subst e
  rcases h with ⟨ρ, h⟩ | ⟨ρ, h⟩
  · exact Ev_none h
  · exact Ev_of h
theorem outs_head {n : Nat} {ρ : Env} {h : List D} (k : ρ[0]? = some (some (.par (.list h)))) : outsOf (n + 1) ρ = .list h :: (outsOf (n + 1) ρ).tail := by
  unfold outsOf
  rw [List.range_succ_eq_map]
  show ((slotD ρ 0).getD PyData.none) :: _ = _
  rw [r_slotD, k]
  rfl
theorem EvP_go {n : Nat} {m m1 : MS} {h : List D} {ds : List D} {r : D} {h' : List D} (e : m = m1) (q : RetsP r h' (m1 (entry n (.par (.list h) :: ds.map SV.dat)))) : EvP (fn n m) h ds (.dat r) h' := by
  subst e
  obtain ⟨ρ, q, k⟩ := q
  exact EvP_dat q k
theorem EvPO_go {n : Nat} {m m1 : MS} {h : List D} {ds : List D} {r : D} {h' : List D} (e : m = m1) (q : RetsPO r h' (m1 (entry n (.par (.list h) :: ds.map SV.dat)))) : EvP (fn n m) h ds (.own r) h' := by
  subst e
  rcases q with ⟨ρ, q, k⟩ | ⟨ρ, i, q, k1, k⟩
  · refine ⟨(outsOf (ds.length + 1) ρ).tail, ?_⟩
    unfold fn
    rw [q]
    show FO.ok (.own r) (outsOf (ds.map SV.dat).length.succ ρ) = _
    rw [List.length_map]
    exact congrArg _ (outs_head k)
  · refine ⟨(outsOf (ds.length + 1) ρ).tail, ?_⟩
    unfold fn
    rw [q]
    show (match ρ[i]? with
      | some (some (.own d)) => FO.ok (.own d) (outsOf (SV.par (.list h) :: ds.map SV.dat).length ρ)
      | some (some (.dat d)) => .ok (.dat d) (outsOf (SV.par (.list h) :: ds.map SV.dat).length ρ)
      | _ => .no) = _
    rw [k1]
    show FO.ok (.own r) (outsOf (ds.map SV.dat).length.succ ρ) = _
    rw [List.length_map]
    exact congrArg _ (outs_head k)
/-! loops -/
theorem for_aux0 {α : Type} {t : MT} {b : MS} {enc : α → D} {l : List α} {I : List α → Env → Prop} {K : SO → Prop}
    (hs : ∀ pre a post ρ, l = pre ++ a :: post → I pre ρ → ∃ ρ1, t (enc a) ρ = some ρ1 ∧ Runs0 (I (pre ++ [a])) (fun ρ' => K (.next ρ')) K (b ρ1)) (hn : ¬ K .no) :
    ∀ (post pre : List α) (ρ : Env), l = pre ++ post → I pre ρ → (∃ ρ', forLoop t b (post.map enc) ρ = .next ρ' ∧ I l ρ') ∨ K (forLoop t b (post.map enc) ρ)
  | [], pre, ρ, e, i => .inl ⟨ρ, rfl, by rw [e, List.append_nil]; exact i⟩
  | a :: post, pre, ρ, e, i => by
    obtain ⟨ρ1, h1, h2⟩ := hs pre a post ρ e i
    have ih := fun ρ2 => for_aux0 hs hn post (pre ++ [a]) ρ2 (by rw [e]; simp)
    rw [List.map_cons]
    unfold forLoop
    rw [h1]
    dsimp only
    cases q : b ρ1 with
    | next ρ2 => rw [q] at h2; exact ih ρ2 h2
    | cont ρ2 => rw [q] at h2; exact ih ρ2 h2
    | brk ρ2 => rw [q] at h2; exact .inr h2
    | ret v ρ2 => rw [q] at h2; exact .inr h2
    | exc x ρ2 => rw [q] at h2; exact .inr h2
    | no => rw [q] at h2; exact absurd h2 hn
/-- a loop, then the rest: I tells of the items that are behind -/
theorem for_run0 {α : Type} {m : MI} {t : MT} {b rest : MS} {ρ ρ1 : Env} {Q : SO → Prop} (l : List α) (enc : α → D) (I : List α → Env → Prop) (hn : ¬ Q .no) (hm : m ρ = .ok (l.map enc) ρ1) (h0 : I [] ρ1)
    (hs : ∀ pre a post ρ, l = pre ++ a :: post → I pre ρ → ∃ ρ1, t (enc a) ρ = some ρ1 ∧ Runs0 (I (pre ++ [a])) (fun ρ' => Q (rest ρ')) Q (b ρ1))
    (hr : ∀ ρ, I l ρ → Q (rest ρ)) : Q ((sFor m t b ρ).bind rest) := by
  have hs' : ∀ pre a post ρ, l = pre ++ a :: post → I pre ρ → ∃ ρ1, t (enc a) ρ = some ρ1 ∧ Runs0 (I (pre ++ [a])) (fun ρ' => (fun (o : SO) => Q (o.bind rest)) (.next ρ')) (fun (o : SO) => Q (o.bind rest)) (b ρ1) := by
    intro pre a post ρ e i
    obtain ⟨ρ1, h1, h2⟩ := hs pre a post ρ e i
    refine ⟨ρ1, h1, ?_⟩
    cases q : b ρ1 <;> rw [q] at h2 <;> exact h2
  unfold sFor
  rw [hm]
  rcases for_aux0 (K := fun o => Q (o.bind rest)) hs' hn l [] ρ1 rfl h0 with ⟨ρ', e, i⟩ | q
  · show Q ((forLoop t b (l.map enc) ρ1).bind rest)
    rw [e]
    exact hr ρ' i
  · exact q
theorem for_run {α : Type} {m : MI} {t : MT} {b rest : MS} {ρ ρ1 : Env} {Q : SO → Prop} (l : List α) (enc : α → D) (I : List α → Env → Prop) (hn : ¬ Q .no) (hm : m ρ = .ok (l.map enc) ρ1) (h0 : I [] ρ1)
    (hs : ∀ pre a post ρ, l = pre ++ a :: post → I pre ρ → ∃ ρ1, t (enc a) ρ = some ρ1 ∧ Runs (I (pre ++ [a])) (fun ρ' => Q (rest ρ')) Q (b ρ1))
    (hr : ∀ ρ, I l ρ → Q (rest ρ)) : Q ((sFor m t b ρ).bind rest) := by
  rw [Runs_eq] at hs
  exact for_run0 l enc I hn hm h0 hs hr
/-- the same, the slots unchanged by the items -/
theorem for_go {α : Type} {m : MI} {t : MT} {b rest : MS} {ρ : Env} {Q : SO → Prop} (l : List α) (enc : α → D) (I : List α → Env → Prop) (hn : ¬ Q .no) (hm : m ρ = .ok (l.map enc) ρ) (h0 : I [] ρ)
    (hs : ∀ pre a post ρ, l = pre ++ a :: post → I pre ρ → ∃ ρ1, t (enc a) ρ = some ρ1 ∧ Runs (I (pre ++ [a])) (fun ρ' => Q (rest ρ')) Q (b ρ1))
    (hr : ∀ ρ, I l ρ → Q (rest ρ)) : Q ((sFor m t b ρ).bind rest) := for_run l enc I hn hm h0 hs hr
theorem so_bind_next (o : SO) : o.bind SO.next = o := by cases o <;> rfl
/-- a loop at the end -/
theorem for_end {α : Type} {m : MI} {t : MT} {b : MS} {ρ ρ1 : Env} {Q : SO → Prop} (l : List α) (enc : α → D) (I : List α → Env → Prop) (hn : ¬ Q .no) (hm : m ρ = .ok (l.map enc) ρ1) (h0 : I [] ρ1)
    (hs : ∀ pre a post ρ, l = pre ++ a :: post → I pre ρ → ∃ ρ1, t (enc a) ρ = some ρ1 ∧ Runs (I (pre ++ [a])) (fun ρ' => Q (.next ρ')) Q (b ρ1))
    (hr : ∀ ρ, I l ρ → Q (.next ρ)) : Q (sFor m t b ρ) := by
  have := for_run (rest := SO.next) (Q := Q) l enc I hn hm h0 hs hr
  rw [so_bind_next] at this
  exact this
theorem for_egl {α : Type} {m : MI} {t : MT} {b : MS} {ρ : Env} {Q : SO → Prop} (l : List α) (enc : α → D) (I : List α → Env → Prop) (hn : ¬ Q .no) (hm : m ρ = .ok (l.map enc) ρ) (h0 : I [] ρ)
    (hs : ∀ pre a post ρ, l = pre ++ a :: post → I pre ρ → ∃ ρ1, t (enc a) ρ = some ρ1 ∧ Runs (I (pre ++ [a])) (fun ρ' => Q (.next ρ')) Q (b ρ1))
    (hr : ∀ ρ, I l ρ → Q (.next ρ)) : Q (sFor m t b ρ) := for_end l enc I hn hm h0 hs hr
theorem for_erun {α : Type} {m : MI} {t : MT} {b : MS} {ρ : Env} {N B : Env → Prop} {Q : SO → Prop} (l : List α) (enc : α → D) (I : List α → Env → Prop) (hn : ¬ Q .no) (hm : m ρ = .ok (l.map enc) ρ) (h0 : I [] ρ)
    (hs : ∀ pre a post ρ, l = pre ++ a :: post → I pre ρ → ∃ ρ1, t (enc a) ρ = some ρ1 ∧ Runs (I (pre ++ [a])) N (Runs N B Q) (b ρ1))
    (hr : ∀ ρ, I l ρ → N ρ) : Runs N B Q (sFor m t b ρ) := for_end (Q := Runs N B Q) l enc I (by rw [Runs_eq]; exact hn) hm h0 (by simp only [show ∀ ρ', Runs N B Q (.next ρ') = N ρ' from fun ρ' => by rw [Runs_eq]; rfl]; exact hs) (by simp only [show ∀ ρ', Runs N B Q (.next ρ') = N ρ' from fun ρ' => by rw [Runs_eq]; rfl]; exact hr)
theorem for_grun {α : Type} {m : MI} {t : MT} {b rest : MS} {ρ : Env} {N B : Env → Prop} {Q : SO → Prop} (l : List α) (enc : α → D) (I : List α → Env → Prop) (hn : ¬ Q .no) (hm : m ρ = .ok (l.map enc) ρ) (h0 : I [] ρ)
    (hs : ∀ pre a post ρ, l = pre ++ a :: post → I pre ρ → ∃ ρ1, t (enc a) ρ = some ρ1 ∧ Runs (I (pre ++ [a])) (fun ρ' => Runs N B Q (rest ρ')) (Runs N B Q) (b ρ1))
    (hr : ∀ ρ, I l ρ → Runs N B Q (rest ρ)) : Runs N B Q ((sFor m t b ρ).bind rest) := for_run (Q := Runs N B Q) l enc I (by rw [Runs_eq]; exact hn) hm h0 hs hr
@[simp] theorem Rets_no (r : D) : Rets r .no ↔ False := ⟨fun ⟨_, e⟩ => (by cases e), False.elim⟩
@[simp] theorem RetsO_no (r : D) : RetsO r .no ↔ False := ⟨fun q => (by rcases q with ⟨_, e⟩ | ⟨_, _, e, _⟩ <;> cases e), False.elim⟩
@[simp] theorem Raises_no (r : Str) : Raises r .no ↔ False := ⟨fun ⟨_, e⟩ => (by cases e), False.elim⟩
@[simp] theorem Ends_no : Ends .no ↔ False := ⟨fun q => (by rcases q with ⟨_, e⟩ | ⟨_, e⟩ <;> cases e), False.elim⟩
@[simp] theorem RetsP_no (r : D) (h : List D) : RetsP r h .no ↔ False := ⟨fun ⟨_, e, _⟩ => (by cases e), False.elim⟩
@[simp] theorem RetsPO_no (r : D) (h : List D) : RetsPO r h .no ↔ False := ⟨fun q => (by rcases q with ⟨_, e, _⟩ | ⟨_, _, e, _⟩ <;> cases e), False.elim⟩
@[simp] theorem Runs_no (N B : Env → Prop) (Q : SO → Prop) : Runs N B Q .no = Q .no := by rw [Runs_eq]; rfl
@[simp] theorem Goes_no (N : Env → Prop) : Goes N .no ↔ False := ⟨fun ⟨_, e, _⟩ => (by cases e), False.elim⟩
/-- while: k bounds the turns that are left -/
theorem while_run0 {c : MB} {b rest : MS} {Q : SO → Prop} (I : Nat → Env → Prop) (hn : ¬ Q .no)
    (hs : ∀ k ρ, I k ρ → (∃ ρ', c ρ = .ok false ρ' ∧ Q (rest ρ')) ∨ ∃ ρ', c ρ = .ok true ρ' ∧ Runs0 (fun ρ2 => ∃ j, j < k ∧ I j ρ2) (fun ρ2 => Q (rest ρ2)) Q (b ρ')) :
    ∀ (fuel k : Nat) (ρ : Env), k < fuel → I k ρ → Q ((sWhile fuel c b ρ).bind rest)
  | 0, k, ρ, h, _ => absurd h (Nat.not_lt_zero _)
  | n + 1, k, ρ, h, i => by
    unfold sWhile whLoop
    rcases hs k ρ i with ⟨ρ', e, q⟩ | ⟨ρ', e, q⟩
    · rw [e]; exact q
    · rw [e]
      show Q (SO.bind (match b ρ' with
        | .next ρ2 => whLoop c b n ρ2
        | .cont ρ2 => whLoop c b n ρ2
        | .brk ρ2 => .next ρ2
        | o => o) rest)
      cases p : b ρ' with
      | next ρ2 => rw [p] at q; obtain ⟨j, hj, ij⟩ := q; exact while_run0 I hn hs n j ρ2 (by omega) ij
      | cont ρ2 => rw [p] at q; obtain ⟨j, hj, ij⟩ := q; exact while_run0 I hn hs n j ρ2 (by omega) ij
      | brk ρ2 => rw [p] at q; exact q
      | ret v ρ2 => rw [p] at q; exact q
      | exc x ρ2 => rw [p] at q; exact q
      | no => rw [p] at q; exact absurd q hn
theorem while_run {c : MB} {b rest : MS} {Q : SO → Prop} (I : Nat → Env → Prop) (hn : ¬ Q .no)
    (hs : ∀ k ρ, I k ρ → (∃ ρ', c ρ = .ok false ρ' ∧ Q (rest ρ')) ∨ ∃ ρ', c ρ = .ok true ρ' ∧ Runs (fun ρ2 => ∃ j, j < k ∧ I j ρ2) (fun ρ2 => Q (rest ρ2)) Q (b ρ'))
    (fuel k : Nat) (ρ : Env) (h : k < fuel) (i : I k ρ) : Q ((sWhile fuel c b ρ).bind rest) := by
  rw [Runs_eq] at hs
  exact while_run0 I hn hs fuel k ρ h i
/-! comprehensions -/
/-- one turn of a comprehension that changes nothing -/
def LcEl (t : MT) (c : MB) (e : ME) (vs : List Nat) (ρ : Env) (d : D) (p : Bool) (r : D) : Prop := match t d ρ with
  | some ρ1 => noPar ρ1 vs = true ∧ wipeE ρ1 vs = ρ ∧ match c ρ1 with
    | .ok b ρ2 => ρ2 = ρ1 ∧ b = p ∧ (p = true → match e ρ1 with
      | .ok x ρ3 => ρ3 = ρ1 ∧ frz [x] = some [r]
      | _ => False)
    | _ => False
  | none => False
theorem wipe_wipe (ρ : Env) : ∀ vs : List Nat, wipeE (wipeE ρ vs) vs = wipeE ρ vs
  | vs => by
    apply List.ext_getElem?
    intro i
    by_cases h : i ∈ vs
    · have key : ∀ (us : List Nat) (σ : Env), i ∈ us → i < σ.length → (wipeE σ us)[i]? = some none := by
        intro us
        induction us with
        | nil => intro _ h; cases h
        | cons u us ih =>
          intro σ hu hl
          show ((wipeE σ us).set u none)[i]? = _
          by_cases e : u = i
          · subst e
            rw [List.getElem?_set_self (by rw [wipeE_len]; exact hl)]
          · rw [List.getElem?_set_ne e]
            exact ih σ ((List.mem_cons.mp hu).resolve_left (Ne.symm e)) hl
      by_cases hl : i < ρ.length
      · rw [key vs _ h (by rw [wipeE_len]; exact hl), key vs _ h hl]
      · rw [List.getElem?_eq_none (by rw [wipeE_len, wipeE_len]; omega), List.getElem?_eq_none (by rw [wipeE_len]; omega)]
    · rw [wipeE_get _ vs i h]
theorem lc_at (c : ME) {m : MI} {vs : List Nat} {t : MT} {cd : MB} {e : ME} (hc : c = mLc m vs t cd e) {α : Type} (l : List α) (enc g : α → D) (p : α → Bool) {ρ : Env} (hm : m ρ = .ok (l.map enc) ρ) (hp : noPar ρ vs = true) (hl : l.length ≤ LINE) (hb : backE ρ (wipeE ρ vs) vs = ρ)
    (h : ∀ a ∈ l, LcEl t cd e vs (wipeE ρ vs) (enc a) (p a) (g a)) : c ρ = .ok (.own (.list ((l.filter p).map g))) ρ := by
  subst hc
  refine mLc_if l enc g p hm hp hl hb fun a ha => ?_
  have := h a ha
  unfold LcEl at this
  cases q : t (enc a) (wipeE ρ vs) with
  | none => rw [q] at this; exact this.elim
  | some ρ1 =>
    rw [q] at this
    obtain ⟨h1, h2, h3⟩ := this
    cases q2 : cd ρ1 with
    | ok b ρ2 =>
      rw [q2] at h3
      obtain ⟨rfl, rfl, h3⟩ := h3
      cases hpa : p a with
      | false => exact ⟨ρ2, .dat .none, rfl, hpa ▸ q2, (fun z => nomatch z), h1, h2⟩
      | true =>
        have h4 := h3 hpa
        cases q3 : e ρ2 with
        | ok x ρ3 =>
          rw [q3] at h4
          obtain ⟨rfl, h4⟩ := h4
          exact ⟨ρ3, x, rfl, hpa ▸ q2, fun _ => ⟨q3, h4⟩, h1, h2⟩
        | exc _ _ => rw [q3] at h4; exact h4.elim
        | no => rw [q3] at h4; exact h4.elim
    | exc _ _ => rw [q2] at h3; exact h3.elim
    | no => rw [q2] at h3; exact h3.elim
/-- without a test -/
theorem lc_all (c : ME) {m : MI} {vs : List Nat} {t : MT} {e : ME} (hc : c = mLc m vs t bYes e) {α : Type} (l : List α) (enc g : α → D) {ρ : Env} (hm : m ρ = .ok (l.map enc) ρ) (hp : noPar ρ vs = true) (hl : l.length ≤ LINE) (hb : backE ρ (wipeE ρ vs) vs = ρ)
    (h : ∀ a ∈ l, LcEl t bYes e vs (wipeE ρ vs) (enc a) true (g a)) : c ρ = .ok (.own (.list (l.map g))) ρ := by
  have := lc_at c hc l enc g (fun _ => true) hm hp hl hb h
  rwa [List.filter_eq_self.mpr (fun _ _ => rfl)] at this
section
variable (ρ ρ0 : Env) (v : Nat) (vs : List Nat)
@[simp] theorem wipeE_nil : wipeE ρ [] = ρ := (rfl)
@[simp] theorem wipeE_cons : wipeE ρ (v :: vs) = (wipeE ρ vs).set v none := (rfl)
@[simp] theorem backE_nil : backE ρ0 ρ [] = ρ := (rfl)
@[simp] theorem backE_cons : backE ρ0 ρ (v :: vs) = (backE ρ0 ρ vs).set v ((ρ0[v]?).getD none) := (rfl)
@[simp] theorem noPar_nil : noPar ρ [] = true := (rfl)
@[simp] theorem noPar_cons : noPar ρ (v :: vs) = (!parAt ρ v && noPar ρ vs) := (rfl)
end
section
variable (ρ : Env)
@[simp] theorem r_iRange1 (a : MEs) : iRange1 a ρ = (a ρ).bind fun rs ρ1 => match rs with
  | [.dat (.int j)] => if rOk j then .ok (rangeD 0 j) ρ1 else .no
  | _ => .no := (rfl)
@[simp] theorem r_iRange2 (a : MEs) : iRange2 a ρ = (a ρ).bind fun rs ρ1 => match rs with
  | [.dat (.int i), .dat (.int j)] => if rOk i && rOk j then .ok (rangeD i j) ρ1 else .no
  | _ => .no := (rfl)
@[simp] theorem r_iEnumA (a : MEs) : iEnumA a ρ = (a ρ).bind fun rs ρ1 => match frz rs with
  | some [d] => (match seqD d with
    | some ds => .ok (enumD 0 ds) ρ1
    | none => .no)
  | _ => .no := by
  unfold iEnumA
  congr 1
end
theorem rangeD_eq (a b : Int) : rangeD a b = (List.range (b - a).toNat).map fun (i : Nat) => .int (a + (i : Int)) := rfl
theorem enumD_eq : ∀ (ds : List D) (k : Nat), enumD k ds = (ds.zipIdx k).map fun p => .tuple [.int (p.2 : Int), p.1]
  | [], _ => rfl
  | d :: ds, k => by
    show PyData.tuple [.int (k : Int), d] :: enumD (k + 1) ds = _
    rw [enumD_eq ds (k + 1)]
    rfl
@[simp] theorem dAll_def (xs : List D) : dAll (.list xs) = (bools xs).map fun bs => .dat (.bool (bs.all id)) := by
  show (match bools xs with | some bs => some (RV.dat (.bool (bs.all id))) | none => none) = _
  cases bools xs <;> rfl
@[simp] theorem dAny_def (xs : List D) : dAny (.list xs) = (bools xs).map fun bs => .dat (.bool (bs.any id)) := by
  show (match bools xs with | some bs => some (RV.dat (.bool (bs.any id))) | none => none) = _
  cases bools xs <;> rfl
@[simp] theorem bools_nil : bools [] = some [] := (rfl)
@[simp] theorem bools_cons (b : Bool) (r : List D) : bools (.bool b :: r) = (bools r).map (b :: ·) := (rfl)
@[simp] theorem bools_mapS {α : Type} (p : α → Bool) (l : List α) : bools (l.map fun a => PyData.bool (p a)) = some (l.map p) := boolsF p l
@[simp] theorem bools_rep (n : Nat) (b : Bool) : bools (List.replicate n (.bool b)) = some (List.replicate n b) := by
  have := boolsF (fun _ : Unit => b) (List.replicate n ())
  simpa using this
/-! slots that may hold anything -/
def nx (x : Option D) : Option SV := x.map SV.dat
@[simp] theorem nx_some (d : D) : nx (some d) = some (.dat d) := (rfl)
@[simp] theorem nx_none : nx none = none := (rfl)
@[simp] theorem isPar_nx (x : Option D) : isPar (some (nx x)) = false := by cases x <;> rfl
@[simp] theorem nx_e1 (d : D) : (∃ x, some (SV.dat d) = nx x) ↔ True := ⟨fun _ => trivial, fun _ => ⟨some d, rfl⟩⟩
@[simp] theorem nx_e2 : (∃ x, none = nx x) ↔ True := ⟨fun _ => trivial, fun _ => ⟨none, rfl⟩⟩
@[simp] theorem nx_e3 (y : Option D) : (∃ x, nx y = nx x) ↔ True := ⟨fun _ => trivial, fun _ => ⟨y, rfl⟩⟩
theorem forLoop_nil (t : MT) (b : MS) (ρ : Env) : forLoop t b [] ρ = .next ρ := (rfl)
theorem forLoop_cons (t : MT) (b : MS) (d : D) (ds : List D) (ρ : Env) : forLoop t b (d :: ds) ρ = match t d ρ with
    | none => .no
    | some ρ1 => match b ρ1 with
      | .next ρ2 => forLoop t b ds ρ2
      | .cont ρ2 => forLoop t b ds ρ2
      | .brk ρ2 => .next ρ2
      | o => o := (rfl)
theorem cut_nn (xs : List D) (a b : Nat) : cutD xs (some (a : Int)) (some (b : Int)) = (xs.drop a).take (b - a) := by
  show (xs.drop (HT.sIx xs.length 0 (some (a : Int)))).take (HT.sIx xs.length xs.length (some (b : Int)) - HT.sIx xs.length 0 (some (a : Int))) = _
  rw [HT.sIx_nat, HT.sIx_nat]
  by_cases h : a ≤ xs.length
  · rw [Nat.min_eq_left h]
    by_cases k : b ≤ xs.length
    · rw [Nat.min_eq_left k]
    · rw [Nat.min_eq_right (show xs.length ≤ b by omega), List.take_of_length_le (by simp), List.take_of_length_le (by simp; omega)]
  · rw [Nat.min_eq_right (show xs.length ≤ a by omega), List.drop_of_length_le (Nat.le_refl _), List.drop_of_length_le (show xs.length ≤ a by omega)]
    simp
theorem cut_from (xs : List D) (a : Nat) : cutD xs (some (a : Int)) none = xs.drop a := by
  show (xs.drop (HT.sIx xs.length 0 (some (a : Int)))).take (xs.length - HT.sIx xs.length 0 (some (a : Int))) = _
  rw [HT.sIx_nat]
  by_cases h : a ≤ xs.length
  · rw [Nat.min_eq_left h, List.take_of_length_le (by simp)]
  · rw [Nat.min_eq_right (show xs.length ≤ a by omega), List.drop_of_length_le (Nat.le_refl _), List.drop_of_length_le (show xs.length ≤ a by omega)]
    simp
def ox (x : Option D) : Option SV := x.map SV.own
@[simp] theorem ox_some (d : D) : ox (some d) = some (.own d) := (rfl)
@[simp] theorem ox_none : ox none = none := (rfl)
@[simp] theorem isPar_ox (x : Option D) : isPar (some (ox x)) = false := by cases x <;> rfl
@[simp] theorem ox_e1 (d : D) : (∃ x, some (SV.own d) = ox x) ↔ True := ⟨fun _ => trivial, fun _ => ⟨some d, rfl⟩⟩
@[simp] theorem ox_e2 : (∃ x, none = ox x) ↔ True := ⟨fun _ => trivial, fun _ => ⟨none, rfl⟩⟩
@[simp] theorem ox_e3 (y : Option D) : (∃ x, ox y = ox x) ↔ True := ⟨fun _ => trivial, fun _ => ⟨y, rfl⟩⟩
section
variable (ρ : Env) (d : D)
@[simp] theorem datE_7 (x : Option D) : datE (ox x :: ρ) = none :: datE ρ := by cases x <;> rfl
@[simp] theorem datE_0 : datE [] = [] := (rfl)
@[simp] theorem datE_1 : datE (some (.dat d) :: ρ) = some (.dat d) :: datE ρ := (rfl)
@[simp] theorem datE_2 : datE (some (.own d) :: ρ) = none :: datE ρ := (rfl)
@[simp] theorem datE_3 : datE (some (.par d) :: ρ) = none :: datE ρ := (rfl)
@[simp] theorem datE_4 : datE (some (.opq .unk) :: ρ) = none :: datE ρ := (rfl)
@[simp] theorem datE_8 (c : Str) : datE (some (.opq (.exc c)) :: ρ) = none :: datE ρ := (rfl)
@[simp] theorem datE_9 (c : Str) : datE (some (.opq (.fnv c)) :: ρ) = some (.opq (.fnv c)) :: datE ρ := (rfl)
@[simp] theorem datE_5 : datE (none :: ρ) = none :: datE ρ := (rfl)
@[simp] theorem datE_6 (x : Option D) : datE (nx x :: ρ) = nx x :: datE ρ := by cases x <;> rfl
end
/-- the class that is let out -/
def excOf : Out RV → Option Str
  | .exc e _ => if e.args.isEmpty then some e.cls else none
  | _ => none
@[simp] theorem excOf_1 (x : Str) (ρ : Env) : excOf (.exc ⟨x, []⟩ ρ) = some x := (rfl)
theorem excOf_of {o : Out RV} {x : Str} (h : excOf o = some x) : ∃ ρ, o = .exc ⟨x, []⟩ ρ := by
  cases o with
  | exc e ρ =>
    obtain ⟨c, as⟩ := e
    cases as with
    | nil => cases h; exact ⟨ρ, rfl⟩
    | cons _ _ => cases h
  | _ => cases h
theorem mTold_exc {n : Nat} {m : ME} {mb : TR → MS} {ρ : Env} {x : Str} {r : D} {outs : List D} (h : excOf (m (datE ρ)) = some x) (k : fn n (mb (.exc ⟨x, []⟩)) [.opq .unk] = .ok (.dat r) outs) : mTold n m mb ρ = .ok (.dat r) ρ := by
  obtain ⟨ρ', h⟩ := excOf_of h
  unfold mTold trOf
  rw [h]
  show (match (fn n (mb (.exc ⟨x, []⟩)) [.opq .unk] : FO) with
    | .ok (.dat d) _ => (Out.ok (RV.dat d) ρ : Out RV)
    | .ok (.own d) _ => .ok (RV.own d) ρ
    | .ok (.opq o) _ => .ok (RV.thg o) ρ
    | _ => .no) = _
  rw [k]
/-! calls -/
theorem callP_aux {f : FS} {h : List D} {ds : List D} {r : D} {h' : List D} (q : EvP f h ds (.dat r) h') {n : Nat} (ρ : Env) {i : Nat} (k : mutL ρ i = some h) (hn : ds.length + 1 = n := by rfl) : callK n f ρ (.bor i :: ds.map RV.dat) = .ok (.dat r) (putSlot ρ i (.list h')) := by
  rcases mutL_some k with e | e
  · exact callK_evP q ρ (by rw [r_slotD, e]; rfl) (by show (match ρ[i]? with | some (some (.dat d)) => some (SV.dat d) | some (some (.own d)) => some (.par d) | some (some (.par d)) => some (.par d) | _ => none) = _; rw [e]) hn
  · exact callK_evP q ρ (by rw [r_slotD, e]; rfl) (by show (match ρ[i]? with | some (some (.dat d)) => some (SV.dat d) | some (some (.own d)) => some (.par d) | some (some (.par d)) => some (.par d) | _ => none) = _; rw [e]) hn
theorem callPO_aux {f : FS} {h : List D} {ds : List D} {r : D} {h' : List D} (q : EvP f h ds (.own r) h') {n : Nat} (ρ : Env) {i : Nat} (k : mutL ρ i = some h) (hn : ds.length + 1 = n := by rfl) : callK n f ρ (.bor i :: ds.map RV.dat) = .ok (.own r) (putSlot ρ i (.list h')) := by
  subst hn
  obtain ⟨outs, q⟩ := q
  have ka : argOf ρ (.bor i) = some (.par (.list h)) := by
    rcases mutL_some k with e | e
    · show (match ρ[i]? with | some (some (.dat d)) => some (SV.dat d) | some (some (.own d)) => some (.par d) | some (some (.par d)) => some (.par d) | _ => none) = _; rw [e]
    · show (match ρ[i]? with | some (some (.dat d)) => some (SV.dat d) | some (some (.own d)) => some (.par d) | some (some (.par d)) => some (.par d) | _ => none) = _; rw [e]
  unfold callK
  have hb : bors (RV.bor i :: ds.map RV.dat) = [i] := by
    show i :: bors (ds.map RV.dat) = _
    rw [bors_dats]
  have ha : argsOf ρ (RV.bor i :: ds.map RV.dat) = some (.par (.list h) :: ds.map SV.dat) := by
    show (match argOf ρ (.bor i), argsOf ρ (ds.map RV.dat) with
      | some a, some as => some (a :: as)
      | _, _ => none) = _
    rw [ka, argsOf_dats]
  rw [hb, ha]
  simp only [List.length_cons, List.length_map, List.nodup_cons, List.not_mem_nil, not_false_eq_true, List.nodup_nil, and_self, if_true, q, retV]
  congr 1
  show putOuts (putSlot ρ i (.list h')) (ds.map RV.dat) outs = _
  exact putOuts_dats _ _ _ (bors_dats ds)
section
variable {f : FS} {a b c d e g r : D} {x : Str} {h h' : List D} {i : Nat}
theorem call5 (h : Ev f [a, b, c, d, e] r) (ρ : Env) : callK 5 f ρ [.dat a, .dat b, .dat c, .dat d, .dat e] = .ok (.dat r) ρ := callK_ev h ρ
theorem call6 (h : Ev f [a, b, c, d, e, g] r) (ρ : Env) : callK 6 f ρ [.dat a, .dat b, .dat c, .dat d, .dat e, .dat g] = .ok (.dat r) ρ := callK_ev h ρ
theorem call3O (h : EvO f [a, b, c] r) (ρ : Env) : callK 3 f ρ [.dat a, .dat b, .dat c] = .ok (.own r) ρ := callK_evO h ρ
theorem call4O (h : EvO f [a, b, c, d] r) (ρ : Env) : callK 4 f ρ [.dat a, .dat b, .dat c, .dat d] = .ok (.own r) ρ := callK_evO h ρ
theorem call4X (h : EvX f [a, b, c, d] x) (ρ : Env) : callK 4 f ρ [.dat a, .dat b, .dat c, .dat d] = .exc ⟨x, []⟩ ρ := callK_evX h ρ
theorem call5X (h : EvX f [a, b, c, d, e] x) (ρ : Env) : callK 5 f ρ [.dat a, .dat b, .dat c, .dat d, .dat e] = .exc ⟨x, []⟩ ρ := callK_evX h ρ
theorem cP1 (q : EvP f h [] (.dat r) h') (ρ : Env) (k : mutL ρ i = some h) : callK 1 f ρ [.bor i] = .ok (.dat r) (putSlot ρ i (.list h')) := callP_aux q ρ k
theorem cP2 (q : EvP f h [a] (.dat r) h') (ρ : Env) (k : mutL ρ i = some h) : callK 2 f ρ [.bor i, .dat a] = .ok (.dat r) (putSlot ρ i (.list h')) := callP_aux q ρ k
theorem cP3 (q : EvP f h [a, b] (.dat r) h') (ρ : Env) (k : mutL ρ i = some h) : callK 3 f ρ [.bor i, .dat a, .dat b] = .ok (.dat r) (putSlot ρ i (.list h')) := callP_aux q ρ k
theorem cP4 (q : EvP f h [a, b, c] (.dat r) h') (ρ : Env) (k : mutL ρ i = some h) : callK 4 f ρ [.bor i, .dat a, .dat b, .dat c] = .ok (.dat r) (putSlot ρ i (.list h')) := callP_aux q ρ k
theorem cPO1 (q : EvP f h [] (.own r) h') (ρ : Env) (k : mutL ρ i = some h) : callK 1 f ρ [.bor i] = .ok (.own r) (putSlot ρ i (.list h')) := callPO_aux q ρ k
theorem cPO2 (q : EvP f h [a] (.own r) h') (ρ : Env) (k : mutL ρ i = some h) : callK 2 f ρ [.bor i, .dat a] = .ok (.own r) (putSlot ρ i (.list h')) := callPO_aux q ρ k
theorem cPO3 (q : EvP f h [a, b] (.own r) h') (ρ : Env) (k : mutL ρ i = some h) : callK 3 f ρ [.bor i, .dat a, .dat b] = .ok (.own r) (putSlot ρ i (.list h')) := callPO_aux q ρ k
end
/-! a new list as an argument is data -/
theorem bors_own (d : D) : ∀ (pre post : List RV), bors (pre ++ .own d :: post) = bors (pre ++ .dat d :: post)
  | [], _ => rfl
  | .bor i :: pre, post => congrArg (i :: ·) (bors_own d pre post)
  | .dat _ :: pre, post => bors_own d pre post
  | .own _ :: pre, post => bors_own d pre post
  | .thg _ :: pre, post => bors_own d pre post
theorem args_own (ρ : Env) (d : D) : ∀ (pre post : List RV), argsOf ρ (pre ++ .own d :: post) = argsOf ρ (pre ++ .dat d :: post)
  | [], _ => rfl
  | r :: pre, post => by
    show (match argOf ρ r, argsOf ρ (pre ++ .own d :: post) with
      | some a, some as => some (a :: as)
      | _, _ => none) = (match argOf ρ r, argsOf ρ (pre ++ .dat d :: post) with
      | some a, some as => some (a :: as)
      | _, _ => none)
    rw [args_own ρ d pre post]
theorem putOuts_own (d : D) : ∀ (pre post : List RV) (ρ : Env) (outs : List D), putOuts ρ (pre ++ .own d :: post) outs = putOuts ρ (pre ++ .dat d :: post) outs
  | [], _, _, [] => rfl
  | [], _, _, _ :: _ => rfl
  | .bor i :: pre, post, ρ, [] => rfl
  | .dat _ :: pre, post, ρ, [] => rfl
  | .own _ :: pre, post, ρ, [] => rfl
  | .thg _ :: pre, post, ρ, [] => rfl
  | .bor i :: pre, post, ρ, o :: outs => putOuts_own d pre post (putSlot ρ i o) outs
  | .dat _ :: pre, post, ρ, o :: outs => putOuts_own d pre post ρ outs
  | .own _ :: pre, post, ρ, o :: outs => putOuts_own d pre post ρ outs
  | .thg _ :: pre, post, ρ, o :: outs => putOuts_own d pre post ρ outs
theorem callK_own (n : Nat) (f : FS) (ρ : Env) (d : D) (pre post : List RV) : callK n f ρ (pre ++ .own d :: post) = callK n f ρ (pre ++ .dat d :: post) := by
  unfold callK
  rw [bors_own, args_own]
  simp only [putOuts_own, List.length_append, List.length_cons]
section
variable (n : Nat) (f : FS) (ρ : Env) (d : D) (a b c e g : RV)
@[simp] theorem ow_1_0 : callK n f ρ [.own d] = callK n f ρ [.dat d] := callK_own n f ρ d [] []
@[simp] theorem ow_2_0 : callK n f ρ [.own d, a] = callK n f ρ [.dat d, a] := callK_own n f ρ d [] [a]
@[simp] theorem ow_2_1 : callK n f ρ [a, .own d] = callK n f ρ [a, .dat d] := callK_own n f ρ d [a] []
@[simp] theorem ow_3_0 : callK n f ρ [.own d, a, b] = callK n f ρ [.dat d, a, b] := callK_own n f ρ d [] [a, b]
@[simp] theorem ow_3_1 : callK n f ρ [a, .own d, b] = callK n f ρ [a, .dat d, b] := callK_own n f ρ d [a] [b]
@[simp] theorem ow_3_2 : callK n f ρ [a, b, .own d] = callK n f ρ [a, b, .dat d] := callK_own n f ρ d [a, b] []
@[simp] theorem ow_4_0 : callK n f ρ [.own d, a, b, c] = callK n f ρ [.dat d, a, b, c] := callK_own n f ρ d [] [a, b, c]
@[simp] theorem ow_4_1 : callK n f ρ [a, .own d, b, c] = callK n f ρ [a, .dat d, b, c] := callK_own n f ρ d [a] [b, c]
@[simp] theorem ow_4_2 : callK n f ρ [a, b, .own d, c] = callK n f ρ [a, b, .dat d, c] := callK_own n f ρ d [a, b] [c]
@[simp] theorem ow_4_3 : callK n f ρ [a, b, c, .own d] = callK n f ρ [a, b, c, .dat d] := callK_own n f ρ d [a, b, c] []
@[simp] theorem ow_5_0 : callK n f ρ [.own d, a, b, c, e] = callK n f ρ [.dat d, a, b, c, e] := callK_own n f ρ d [] [a, b, c, e]
@[simp] theorem ow_5_1 : callK n f ρ [a, .own d, b, c, e] = callK n f ρ [a, .dat d, b, c, e] := callK_own n f ρ d [a] [b, c, e]
@[simp] theorem ow_5_2 : callK n f ρ [a, b, .own d, c, e] = callK n f ρ [a, b, .dat d, c, e] := callK_own n f ρ d [a, b] [c, e]
@[simp] theorem ow_5_3 : callK n f ρ [a, b, c, .own d, e] = callK n f ρ [a, b, c, .dat d, e] := callK_own n f ρ d [a, b, c] [e]
@[simp] theorem ow_5_4 : callK n f ρ [a, b, c, e, .own d] = callK n f ρ [a, b, c, e, .dat d] := callK_own n f ρ d [a, b, c, e] []
@[simp] theorem ow_6_0 : callK n f ρ [.own d, a, b, c, e, g] = callK n f ρ [.dat d, a, b, c, e, g] := callK_own n f ρ d [] [a, b, c, e, g]
@[simp] theorem ow_6_1 : callK n f ρ [a, .own d, b, c, e, g] = callK n f ρ [a, .dat d, b, c, e, g] := callK_own n f ρ d [a] [b, c, e, g]
@[simp] theorem ow_6_2 : callK n f ρ [a, b, .own d, c, e, g] = callK n f ρ [a, b, .dat d, c, e, g] := callK_own n f ρ d [a, b] [c, e, g]
@[simp] theorem ow_6_3 : callK n f ρ [a, b, c, .own d, e, g] = callK n f ρ [a, b, c, .dat d, e, g] := callK_own n f ρ d [a, b, c] [e, g]
@[simp] theorem ow_6_4 : callK n f ρ [a, b, c, e, .own d, g] = callK n f ρ [a, b, c, e, .dat d, g] := callK_own n f ρ d [a, b, c, e] [g]
@[simp] theorem ow_6_5 : callK n f ρ [a, b, c, e, g, .own d] = callK n f ρ [a, b, c, e, g, .dat d] := callK_own n f ρ d [a, b, c, e, g] []
end
end PD

namespace PD
open PySem
/-! ### data that may be compared, sorted -/
theorem mmOk_of_all {n : Nat} {xs : List D} (h : ∀ x ∈ xs, Sm n x ∧ notNone x = true) (k : ∀ x ∈ xs, ∀ y ∈ xs, PySem.W.alike x y = true) (hn : n ≤ 60 := by omega) : mmOk xs = true := by
  obtain ⟨h1, h2⟩ := Sm_all xs fun x hx => (h x hx).1
  have h3 : alikeB xs = true := List.all_eq_true.mpr fun x hx => List.all_eq_true.mpr fun y hy => k x hx y hy
  have h4 : xs.all notNone = true := List.all_eq_true.mpr fun x hx => (h x hx).2
  unfold mmOk
  rw [h1, h3, h4, decide_eq_true (by omega)]
  rfl
theorem soOk_tups {n : Nat} {xs : List D} (h : ∀ x ∈ xs, Sm n x ∧ isTup1 x = true) (k : ∀ x ∈ xs, ∀ y ∈ xs, PySem.W.alike x y = true) (hn : n ≤ 60 := by omega) : soOk xs = true := by
  obtain ⟨h1, h2⟩ := Sm_all xs fun x hx => (h x hx).1
  have h3 : alikeB xs = true := List.all_eq_true.mpr fun x hx => List.all_eq_true.mpr fun y hy => k x hx y hy
  have h4 : xs.all isTup1 = true := List.all_eq_true.mpr fun x hx => (h x hx).2
  unfold soOk
  rw [h1, h3, h4, decide_eq_true (by omega)]
  rfl
theorem soOk_others {n : Nat} {xs : List D} (h : ∀ x ∈ xs, Sm n x ∧ notTup x = true) (k : ∀ x ∈ xs, ∀ y ∈ xs, PySem.W.alike x y = true) (hn : n ≤ 60 := by omega) : soOk xs = true := by
  obtain ⟨h1, h2⟩ := Sm_all xs fun x hx => (h x hx).1
  have h3 : alikeB xs = true := List.all_eq_true.mpr fun x hx => List.all_eq_true.mpr fun y hy => k x hx y hy
  have h4 : xs.all notTup = true := List.all_eq_true.mpr fun x hx => (h x hx).2
  unfold soOk
  rw [h1, h3, h4, decide_eq_true (by omega), Bool.or_true]
  rfl
theorem mmOk_ints (ns : List Int) : mmOk (ns.map PyData.int) = true := by
  refine mmOk_of_all (n := 0) (fun x hx => ?_) (fun x hx y hy => ?_)
  · obtain ⟨i, _, rfl⟩ := List.mem_map.mp hx
    exact ⟨Sm_int _ _, rfl⟩
  · obtain ⟨i, _, rfl⟩ := List.mem_map.mp hx
    obtain ⟨j, _, rfl⟩ := List.mem_map.mp hy
    simp [PySem.W.alike]
theorem soOk_ints (ns : List Int) : soOk (ns.map PyData.int) = true := by
  refine soOk_others (n := 0) (fun x hx => ?_) (fun x hx y hy => ?_)
  · obtain ⟨i, _, rfl⟩ := List.mem_map.mp hx
    exact ⟨Sm_int _ _, rfl⟩
  · obtain ⟨i, _, rfl⟩ := List.mem_map.mp hx
    obtain ⟨j, _, rfl⟩ := List.mem_map.mp hy
    simp [PySem.W.alike]
theorem dMin_ints (n : Int) (ns : List Int) : dMin [.list (.int n :: ns.map PyData.int)] = some (.dat (.int (ns.foldl min n))) := by
  have := mmOk_ints (n :: ns)
  simp only [List.map_cons] at this
  show (if mmOk (.int n :: ns.map PyData.int) then some (RV.dat (PySem.W.minD (.int n) (ns.map PyData.int))) else none) = _
  rw [if_pos this, PySem.W.minD_ints]
theorem dMax_ints (n : Int) (ns : List Int) : dMax [.list (.int n :: ns.map PyData.int)] = some (.dat (.int (ns.foldl max n))) := by
  have := mmOk_ints (n :: ns)
  simp only [List.map_cons] at this
  show (if mmOk (.int n :: ns.map PyData.int) then some (RV.dat (PySem.W.maxD (.int n) (ns.map PyData.int))) else none) = _
  rw [if_pos this, PySem.W.maxD_ints]
@[simp] theorem dMin_two (i j : Int) : dMin [.int i, .int j] = some (.dat (.int (if j < i then j else i))) := (rfl)
@[simp] theorem dMax_two (i j : Int) : dMax [.int i, .int j] = some (.dat (.int (if j > i then j else i))) := (rfl)
theorem min_le_of (n : Int) (ns : List Int) : (∀ x ∈ n :: ns, ns.foldl min n ≤ x) ∧ ns.foldl min n ∈ n :: ns := by
    induction ns generalizing n with
    | nil => simp
    | cons a ns ih =>
      obtain ⟨h1, h2⟩ := ih (min n a)
      rw [List.foldl_cons]
      refine ⟨fun x hx => ?_, ?_⟩
      · have hm := h1 (min n a) List.mem_cons_self
        rcases List.mem_cons.mp hx with rfl | hx
        · omega
        · rcases List.mem_cons.mp hx with rfl | hx
          · omega
          · exact h1 x (List.mem_cons_of_mem _ hx)
      · rcases List.mem_cons.mp h2 with e | h2
        · rw [e]
          by_cases c : n ≤ a
          · rw [Int.min_eq_left c]; simp
          · rw [Int.min_eq_right (by omega)]; simp
        · exact List.mem_cons_of_mem _ (List.mem_cons_of_mem _ h2)
theorem max_ge_of (n : Int) (ns : List Int) : (∀ x ∈ n :: ns, x ≤ ns.foldl max n) ∧ ns.foldl max n ∈ n :: ns := by
    induction ns generalizing n with
    | nil => simp
    | cons a ns ih =>
      obtain ⟨h1, h2⟩ := ih (max n a)
      rw [List.foldl_cons]
      refine ⟨fun x hx => ?_, ?_⟩
      · have hm := h1 (max n a) List.mem_cons_self
        rcases List.mem_cons.mp hx with rfl | hx
        · omega
        · rcases List.mem_cons.mp hx with rfl | hx
          · omega
          · exact h1 x (List.mem_cons_of_mem _ hx)
      · rcases List.mem_cons.mp h2 with e | h2
        · rw [e]
          by_cases c : n ≤ a
          · rw [Int.max_eq_right c]; simp
          · rw [Int.max_eq_left (by omega)]; simp
        · exact List.mem_cons_of_mem _ (List.mem_cons_of_mem _ h2)
@[simp] theorem dSorted_l {xs : List D} (h : soOk xs = true) : dSorted (.list xs) = some (.own (.list (sortD xs))) := by
  show (if soOk xs then some (RV.own (.list (sortD xs))) else none) = _
  rw [if_pos h]
@[simp] theorem dSorted_t {xs : List D} (h : soOk xs = true) : dSorted (.tuple xs) = some (.own (.list (sortD xs))) := by
  show (if soOk xs then some (RV.own (.list (sortD xs))) else none) = _
  rw [if_pos h]
theorem sortD_map {α : Type} (enc : α → D) (le : α → α → Bool) (h : ∀ a b, leD (enc a) (enc b) = le a b) (l : List α) : sortD (l.map enc) = (l.mergeSort le).map enc := by
  unfold sortD
  rw [List.map_mergeSort (r := le) (s := leD) (f := enc) (fun a _ b _ => (h a b).symm)]
theorem lt_ints (xs ys : List Int) : PySem.W.dataLt (.tuple (xs.map PyData.int)) (.tuple (ys.map PyData.int)) = decide (xs < ys) := by
  rw [PySem.W.dataLt_tuple]
  exact PySem.W.dataLt_ints xs ys
end PD
namespace PD
open PySem
theorem dAdd_t {xs ys : List D} (h : xs.length + ys.length ≤ 16777216) : dAdd (.tuple xs) (.tuple ys) = some (.dat (.tuple (xs ++ ys))) := by
  show (if xs.length + ys.length ≤ LINE then some (RV.dat (.tuple (xs ++ ys))) else none) = _
  rw [if_pos (by rw [r_LINE]; exact h)]
theorem dAdd_l {xs ys : List D} (h : xs.length + ys.length ≤ 16777216) : dAdd (.list xs) (.list ys) = some (.own (.list (xs ++ ys))) := by
  show (if xs.length + ys.length ≤ LINE then some (RV.own (.list (xs ++ ys))) else none) = _
  rw [if_pos (by rw [r_LINE]; exact h)]
end PD
namespace PD
open PySem
/-! ints in lists -/
theorem ints_sm (ns : List Int) : PyData.plainAll (ns.map PyData.int) = true ∧ PyData.depthAll (ns.map PyData.int) ≤ 0 := Sm_all _ fun x hx => by
  obtain ⟨i, _, rfl⟩ := List.mem_map.mp hx
  exact Sm_int _ _
theorem inAny_ints (x : Int) (ns : List Int) : inAny (.int x) (ns.map PyData.int) = decide (x ∈ ns) := by
  unfold inAny
  induction ns with
  | nil => rfl
  | cons n ns ih =>
    simp only [List.map_cons, List.any_cons, ih, eqv_int]
    by_cases h : n = x
    · subst h; simp
    · simp [h, Ne.symm h, show ¬ x = n from fun e => h e.symm]
theorem inOk_ints (x : Int) (ns : List Int) : inOk (.int x) (ns.map PyData.int) = true := by
  have h := ints_sm ns
  unfold inOk
  rw [h.1, decide_eq_true (by have := h.2; omega)]
  rfl
theorem dIn_ints (neg : Bool) (x : Int) (ns : List Int) : dInB neg (.int x) (.list (ns.map PyData.int)) = some (.dat (.bool (if neg then !decide (x ∈ ns) else decide (x ∈ ns)))) := by
  show (if inOk (.int x) (ns.map PyData.int) then some (RV.dat (.bool (if neg then !inAny (.int x) (ns.map PyData.int) else inAny (.int x) (ns.map PyData.int)))) else none) = _
  rw [if_pos (inOk_ints x ns), inAny_ints]
theorem dIn_intsT (neg : Bool) (x : Int) (ns : List Int) : dInB neg (.int x) (.tuple (ns.map PyData.int)) = some (.dat (.bool (if neg then !decide (x ∈ ns) else decide (x ∈ ns)))) := by
  show (if inOk (.int x) (ns.map PyData.int) then some (RV.dat (.bool (if neg then !inAny (.int x) (ns.map PyData.int) else inAny (.int x) (ns.map PyData.int)))) else none) = _
  rw [if_pos (inOk_ints x ns), inAny_ints]
theorem Sm_ints (ns : List Int) : Sm 1 (.list (ns.map PyData.int)) := Sm_list fun x hx => by
  obtain ⟨i, _, rfl⟩ := List.mem_map.mp hx
  exact Sm_int _ _
theorem Sm_intsT (ns : List Int) : Sm 1 (.tuple (ns.map PyData.int)) := Sm_tuple fun x hx => by
  obtain ⟨i, _, rfl⟩ := List.mem_map.mp hx
  exact Sm_int _ _
@[simp] theorem dNe_str (a b : Str) : dNe (.str a) (.str b) = some (.dat (.bool (!PyData.eqv (.str a) (.str b)))) := dNe_sm (Sm_str 0 a) (Sm_str 0 b)
theorem enum_map {α : Type} (f : α → D) (l : List α) : enumD 0 (l.map f) = (l.zipIdx).map fun p => .tuple [.int (p.2 : Int), f p.1] := by
  rw [enumD_eq, List.zipIdx_map, List.map_map]
  rfl
theorem dNe_nil {xs : List D} (h : PyData.plainAll xs = true) : dNe (.list xs) (.list []) = some (.dat (.bool (!xs.isEmpty))) := by
  cases xs with
  | nil => rfl
  | cons x xs =>
    have e : eqOk (.list (x :: xs)) (.list []) = true := by
      unfold eqOk
      rw [show (PyData.list (x :: xs)).plain = true by simp only [PyData.plain]; exact h]
      simp [PyData.plain, PyData.plainAll, PyData.depth, PyData.depthAll]
    unfold dNe
    rw [if_pos e]
    rfl
end PD
namespace PD
open PySem
theorem dMul_r {i j : Int} (h : Sml j) : dMul (.int i) (.int j) = some (.dat (.int (i * j))) := by
  have hm : mulOk i j = true := by
    unfold mulOk
    rw [decide_eq_true (show -(2 ^ 64) < j ∧ j < 2 ^ 64 from ⟨by have := h.1; simpa using this, by have := h.2; simpa using this⟩), Bool.or_true]
    rfl
  show (if mulOk i j then some (RV.dat (.int (i * j))) else none) = _
  rw [hm]
  rfl
end PD
namespace PD
open PySem
@[simp] theorem dSum_map {α : Type} (f : α → Int) (l : List α) : dSum (.list (l.map fun a => PyData.int (f a))) = some (.dat (.int (l.map f).sum)) := by
  have := dSum_l (l.map f)
  rwa [List.map_map] at this
@[simp] theorem dSum_mapT {α : Type} (f : α → Int) (l : List α) : dSum (.tuple (l.map fun a => PyData.int (f a))) = some (.dat (.int (l.map f).sum)) := by
  have := dSum_t (l.map f)
  rwa [List.map_map] at this
theorem dEq_nil {xs : List D} (h : PyData.plainAll xs = true) : dEq (.list xs) (.list []) = some (.dat (.bool xs.isEmpty)) := by
  cases xs with
  | nil => rfl
  | cons x xs =>
    have e : eqOk (.list (x :: xs)) (.list []) = true := by
      unfold eqOk
      rw [show (PyData.list (x :: xs)).plain = true by simp only [PyData.plain]; exact h]
      simp [PyData.plain, PyData.plainAll, PyData.depth, PyData.depthAll]
    unfold dEq
    rw [if_pos e]
    rfl
theorem plainAll_sm {n : Nat} {xs : List D} (h : ∀ x ∈ xs, Sm n x) : PyData.plainAll xs = true := (Sm_all xs h).1
end PD
namespace PD
open PySem
@[simp] theorem dIs_none (neg : Bool) (d : D) : dIs neg d .none = some (.dat (.bool (if neg then !isNone d else isNone d))) := (rfl)
@[simp] theorem isNone_1 : isNone .none = true := (rfl)
@[simp] theorem isNone_2 (i : Int) : isNone (.int i) = false := (rfl)
@[simp] theorem isNone_3 (xs : List D) : isNone (.tuple xs) = false := (rfl)
@[simp] theorem isNone_4 (xs : List D) : isNone (.list xs) = false := (rfl)
@[simp] theorem isNone_5 (x : Str) : isNone (.str x) = false := (rfl)
@[simp] theorem isNone_6 (x : Bool) : isNone (.bool x) = false := (rfl)
@[simp] theorem dIs_bool (neg a b : Bool) : dIs neg (.bool a) (.bool b) = some (.dat (.bool (if neg then !decide (a = b) else decide (a = b)))) := (rfl)
@[simp] theorem dNe_bool (a b : Bool) : dNe (.bool a) (.bool b) = some (.dat (.bool (!decide (a = b)))) := by cases a <;> cases b <;> rfl
@[simp] theorem dEq_bool (a b : Bool) : dEq (.bool a) (.bool b) = some (.dat (.bool (decide (a = b)))) := by cases a <;> cases b <;> rfl
@[simp] theorem dNe_none : dNe .none .none = some (.dat (.bool false)) := (rfl)
@[simp] theorem dEq_none : dEq .none .none = some (.dat (.bool true)) := (rfl)
end PD

namespace PD
open PySem PySem.Spec PyProof.Rows L2
/-! ### xs[i] += e -/
theorem get_list {X : Cx} : PGet X (fun o i H Q => ∃ p xs k v, o = .ref p ∧ i = .int k ∧ SqL X.K H p xs ∧ L2.atI xs k = some v ∧ Q v H) := by
  intro pins s σ H o i ov iv Q I ro ri h
  obtain ⟨p, xs, i, z, rfl, rfl, hq, he, q⟩ := h
  cases ro
  obtain ⟨t, rfl⟩ := ri
  obtain ⟨its, r, pl, hz⟩ := I.list hq
  obtain ⟨j, h1, h2, h3, h4, h5⟩ := atI_get he
  obtain ⟨w, ew, rw'⟩ := r.get h2
  have hl := r.length
  have hn := line63
  have fin : EP X pins σ Q w s := ⟨z, H, I, rw', q⟩
  by_cases h0 : 0 ≤ i
  · have hj : i.toNat = j := by
      rw [seqIndex_of h0 h5] at h1
      exact Option.some.inj h1
    exact wpAny_getItem_list pl.isList h0 (by omega) (by rw [hj]; simpa using ew) fin
  · have hj : (i + (its.toArray.size : Int)).toNat = j := by
      rw [seqIndex_neg (by omega) h4] at h1
      rw [List.size_toArray, ← hl]
      exact Option.some.inj h1
    exact wpAny_getItem_list_neg pl.isList (by omega) (by rw [List.size_toArray] <;> omega) (by omega) (by rw [hj]; simpa using ew) fin
def sAugIx (i : Nat) (f : Int → Int → Int) (ix m : ME) : MS := fun ρ => match mutL ρ i with
  | some _ => (ix ρ).bindS fun k ρ1 => match k, mutL ρ1 i with
    | .dat (.int n), some ds1 => (match L2.atI ds1 n with
      | some (.int x) => (m ρ1).bindS fun r ρ2 => (match r, mutL ρ2 i with
        | .dat (.int y), some ds2 => (match L2.ixN ds2.length n with
          | some j => .next (putSlot ρ2 i (.list (ds2.set j (.int (f x y)))))
          | none => .no)
        | _, _ => .no)
      | _ => .no)
    | _, _ => .no
  | none => .no
section
variable [Tab] [Zok] {X : Cx} {W : WX}
theorem qs_augIx {i : Nat} {e o b : Expr} {op : Operator} {f : Int → Int → Int} {m ix : ME} {pos tpos : Pos} (ho : PE X o (tVar i)) (hb : QE X W b ix) (he : QE X W e m) (hp : PIp X op (ipI f))
    (ha : ∀ ov iv new, augStore b ov iv new = (do holding [new, ov, iv] (setItem ov iv new); release [new, ov, iv] []; pure .next) := by intros; rfl) :
    QS X W (.AugAssign (.Subscript o b tpos) op e pos) (sAugIx i f ix m) := by
  refine PS.of (ps_augS ho hb get_list he hp set_list ha) fun D σ H hq => ?_
  obtain ⟨Z, F, ρ, S, k⟩ := hq
  unfold sAugIx at k
  split at k
  · rename_i ds0 g0
    obtain ⟨a, xs0, h1, f0, h2, _, _⟩ := S.own_at g0
    refine ⟨_, h1, Z, F, ρ, S, PostS.bind0 k fun r ρ1 H1 F1 e1 S1 st1 k1 v vo nw => ?_⟩
    split at k1
    · rename_i n ds1 g1
      obtain ⟨b1, xs1, q1, q2, q3, q4, q5⟩ := S1.own_at g1
      rw [h1] at q1; cases q1
      split at k1
      · rename_i x gx
        obtain ⟨vx, ex, rx⟩ := RepAll.atI q5 gx
        refine ⟨_, xs1, n, vx, rfl, dat_int vo, .inl (.inl q3), ex, Z, F1, ρ1, S1, PostS.bind (PostS.later k1 st1.s) fun r2 ρ2 H3 F3 e3 S3 st3 k3 v2 vo2 nw2 => ?_⟩
        split at k3
        · rename_i y ds2 g3
          cases g4 : ixN ds2.length n with
          | none => rw [g4] at k3; exact k3.elim
          | some j =>
            rw [g4] at k3
            obtain ⟨b2, xs2, p1, p2, p3, p4, p5⟩ := S3.own_at g3
            rw [h1] at p1; cases p1
            obtain ⟨S4, st4⟩ := S3.mutate (vs := xs2.set j (.int (f x y))) g3 h1 (p5.set (.int _) j) (by rw [List.length_set]; exact p4)
            exact ⟨x, y, dat_int rx, dat_int vo2, _, xs2, n, j, rfl, dat_int vo, p3, by rw [p5.length]; exact g4, k3 _ _ _ S4 st4.s⟩
        · exact k3.elim
      · exact k1.elim
    · exact k1.elim
  · exact k.elim
end
end PD
namespace PD
open PySem
@[simp] theorem r_sAugIx (ρ : Env) (i : Nat) (f : Int → Int → Int) (ix m : ME) : sAugIx i f ix m ρ = match mutL ρ i with
  | some _ => (ix ρ).bindS fun k ρ1 => match k, mutL ρ1 i with
    | .dat (.int n), some ds1 => (match L2.atI ds1 n with
      | some (.int x) => (m ρ1).bindS fun r ρ2 => (match r, mutL ρ2 i with
        | .dat (.int y), some ds2 => (match L2.ixN ds2.length n with
          | some j => .next (putSlot ρ2 i (.list (ds2.set j (.int (f x y)))))
          | none => .no)
        | _, _ => .no)
      | _ => .no)
    | _, _ => .no
  | none => .no := (rfl)
theorem ixN_nat {n k : Nat} (h : k < n) : L2.ixN n (k : Int) = some k := by
  unfold L2.ixN
  rw [if_pos (by omega), if_pos (by omega)]
  simp
theorem atI_some {xs : List D} {n : Int} {k : Nat} {d : D} (e : n = k) (h : xs[k]? = some d) : L2.atI xs n = some d := by
  subst e
  rw [at_nat, h]
end PD

/-! PD26: x, y = a, b by a real tuple, where a name is a cell: new lists stay one's own -/
namespace PD
open PySem PySem.Spec PyProof.Rows L2
section
variable [Tab] [Zok] {X : Cx} {W : WX} {K : PySem.W.Frag} {Z : Zone} {σ σ1 : St} {F F1 : Forb} {ρ ρ1 : Env} {H H0 H1 : Hp}
theorem qs_parT {i j : Nat} {oi oj : Bool} {x y : Str} {a b : Expr} {ma mb : ME} {px py pt pos : Pos} {kt k2 pt2} (hc : X.calm = true) (hN : X.N.Nodup) (hi : X.N[i]? = some x) (hj : X.N[j]? = some y)
    (hx : Loc X.env.scope x) (hy : Loc X.env.scope y) (ha : QE X W a ma) (hb : QE X W b mb)
    (fx : X.fn x = true ∨ X.env.scope.names.lookup x = some .local := by first | exact .inl rfl | exact .inr rfl | assumption)
    (fy : X.fn y = true ∨ X.env.scope.names.lookup y = some .local := by first | exact .inl rfl | exact .inr rfl | assumption)
    (hw : swappedStores [.Tuple [.Name x px, .Name y py] kt pt] (.Tuple [a, b] k2 pt2) X.env = pure none := by rfl)
    (hs : swapsWithSole [.Tuple [.Name x px, .Name y py] kt pt] (.Tuple [a, b] k2 pt2) pos.line X.env = pure false := by rfl)
    (sa : starEach [a, b] X.env = (false, eval a X.env) :: starEach [b] X.env := by rfl) (sb : starEach [b] X.env = (false, eval b X.env) :: starEach [] X.env := by rfl) :
    QS X W (.Assign [.Tuple [.Name x px, .Name y py] kt pt] (.Tuple [a, b] k2 pt2) pos) (sPar (i, oi) (j, oj) ma mb) := by
  refine PS.of (ps_asg (pe_tup (pa_cons ha (pa_cons hb pa_nil sb) sa)) (pg_tup hc (pgs_cons (pg_name hN hi hx fx) (pgs_cons (pg_name hN hj hy fy) pgs_nil)) ) hs hw) fun D σ H hq => ?_
  obtain ⟨Z, F, ρ, S, k⟩ := hq
  refine ⟨Z, F, ρ, S, PostS.bind0 k fun r ρ1 H1 F1 e1 S1 st1 k1 v1 vo1 nw1 => ⟨Z, F1, ρ1, S1, PostS.bindAt k1 st1.s fun t ρ2 H2 F2 e2 S2 st2 k2 v2 vo2 nw2 => ?_⟩⟩
  refine ⟨by rw [sizeLine_eq]; show 2 ≤ _; omega, fun p np => ⟨p, _, rfl, .inl (.inl upd_same), rfl, _, _, rfl, _, _, rfl, rfl, ?_⟩⟩
  obtain ⟨S2', stn⟩ := S2.new (o := .tup [v1, v2]) np
  have vo1' := (vo1.step st2).step stn
  have vo2n := vo2.step stn
  have n2 := nw2.back st1.dom
  dsimp only at k2
  cases g1 : put1 oi i r ρ2 with
  | none => rw [g1] at k2; exact k2.elim
  | some ρ3 =>
    rw [g1] at k2
    have hb2 : Bare t := by
      cases t with
      | bor _ => exact k2.elim
      | thg _ => exact k2.elim
      | _ => trivial
    cases g2 : put1 oj j t ρ3 with
    | none => cases t <;> first | exact k2.elim | (simp only [g2] at k2; exact k2.elim)
    | some ρ4 =>
      have k3 : PostS X W Z σ F ρ H D (.next ρ4) := by
        cases t with
        | bor _ => exact k2.elim
        | thg _ => exact k2.elim
        | dat _ => simp only [g2] at k2; exact k2
        | own _ => simp only [g2] at k2; exact k2
      obtain ⟨F3, S3, m1, m2, m3, m4⟩ := put1_ok S2' vo1' g1
      have vo2' := m4 v2 t hb2 vo2n fun c d d' er ev et ew => own_there S1 vo1 er ev (nw2.at et ew)
      obtain ⟨F4, S4, p1, p2, p3, _⟩ := put1_ok S3 vo2' g2
      refine k3 _ _ F4 S4 (stepS_puts ((st1.trans st2).trans stn) S.al (fun c f => m1 c (p1 c f)) (fun c f => ?_) fun q c o => ?_)
      · rcases m2 c f with z | ⟨d, z1, z2⟩
        · rcases p2 c z with z | ⟨d, z1, z2⟩
          · exact .inl z
          · exact .inr (n2.at z1 z2)
        · exact .inr (nw1.at z1 z2)
      · rcases p3 q c o with z | ⟨d, z1, z2⟩
        · rcases m3 q c z with z | ⟨d, z1, z2⟩
          · exact .inl z
          · exact .inr (nw1.at z1 z2)
        · exact .inr (n2.at z1 z2)
end
end PD

namespace PD
open PySem PySem.Spec PyProof.Rows L2
/-! ### a lambda with a default that its body does not read -/
structure LamSD (sc scope : Scope) (N : List Str) (q0 : Str) : Prop where
  kind : scope.kind = .function
  co : scope.isCoroutine = false
  gen : scope.isGenerator = false
  own : ∀ y ∈ scope.names, y.2 ≠ .cell ∧ (y.2 = .local → y.1 = q0)
  free : ∀ y ∈ scope.names, y.2 = .free → sc.names.lookup y.1 = some .cell ∨ sc.names.lookup y.1 = some .free
  ps : scope.names.lookup q0 = some .local
  far : q0 ∉ N
def lamSDB (sc scope : Scope) (N : List Str) (q0 : Str) : Bool :=
  decide (scope.kind = .function) && !scope.isCoroutine && !scope.isGenerator && scope.names.all (fun y => !decide (y.2 = .cell) && (!decide (y.2 = .local) || decide (y.1 = q0)) && (!decide (y.2 = .free) || decide (sc.names.lookup y.1 = some .cell) || decide (sc.names.lookup y.1 = some .free))) && decide (scope.names.lookup q0 = some .local) && !decide (q0 ∈ N)
theorem lamSD_by {sc scope : Scope} {N : List Str} {q0 : Str} (h : lamSDB sc scope N q0 = true) : LamSD sc scope N q0 := by
  unfold lamSDB at h
  simp only [Bool.and_eq_true, Bool.or_eq_true, Bool.not_eq_true', decide_eq_true_eq, decide_eq_false_iff_not, List.all_eq_true] at h
  obtain ⟨⟨⟨⟨⟨h1, h2⟩, h3⟩, h4⟩, h5⟩, h6⟩ := h
  refine ⟨h1, h2, h3, fun y hy => ⟨(h4 y hy).1.1, fun e => ((h4 y hy).1.2).resolve_left fun n => n e⟩, fun y hy e => ?_, h5, h6⟩
  rcases (h4 y hy).2 with (z | z) | z
  · exact absurd e z
  · exact .inl z
  · exact .inr z
theorem LamSD.has {X : Cx} {scope : Scope} {N : List Str} {q0 : Str} (L : LamSD X.env.scope scope N q0) (ok : X.Ok) : ∀ y ∈ scope.names, y.2 = .free → ∃ c, X.env.cells.lookup y.1 = some c := fun y hy e => by
  rcases L.free y hy e with k | k
  · exact ok.has _ (.inl k)
  · exact ok.has _ (.inr k)
/-- what the call without arguments binds -/
def BindD (params : Arguments) (body : Expr) (scope : Scope) (q0 : Str) : Prop := ∀ (q : Str) (cl : List (Str × Addr)) (dV doc pm cv ctv v : Value), ∃ k : Option (Array Value) → Sem (List (Str × Value)),
  bindArgs (PySem.W.kdv_fn "<lambda>" q params (.expr body) scope cl dV doc pm cv ctv) ⟨[], []⟩ = seqItems? dV >>= k ∧ k (some #[v]) = pure [(q0, v)]
section
variable [Tab] [Zok] {X : Cx} {W : WX} {Z : Zone} {F : Forb} {ρ : Env} {σ : St} {H HZ : Hp} {pins : List (Addr × Obj)} {s s1 : Shared}
omit [Tab] [Zok] in
theorem lam_startD {bs : List (Str × Value)} {q0 : Str} {A : Around} {outer : List PySem.Env} {E : XK} {scope : Scope} {f c' : Addr} {h₁ : Heap} {tk : Nat} (I : Inv X pins σ H s) (L : LamSD X.env.scope scope X.N q0) (e0 : Env0 X.prog X.w X.K X.mg X.base A outer s1 HZ) (hd : A.handled = none)
    (un : Un (frs X.stack) [] H HZ s.heap s1.heap) (hns : h₁.Ns s1.heap.objs.size fun y => bs.reverse.lookup y) (kp : ∀ b o, s1.heap.get? b = some o → h₁.get? b = some o) :
    Inv (LamX.lamCx X A outer s1 HZ E scope f c') [] σ HZ { s1 with heap := h₁, toks := tk } := by
  have hfree := L.has I.ok
  have cm : ∀ {y c}, (cloFrom X.env.cells scope.names []).lookup y = some c → X.env.cells.lookup y = some c := fun {y c} e => by
    rcases cloFrom_mem (PySem.mem_of_lookup e) with hm | ⟨h1, h2⟩
    · cases hm
    · obtain ⟨c1, hc⟩ := hfree _ h1 rfl
      have hc : X.env.cells.lookup y = some c1 := hc
      have e2 : c = c1 := by
        rw [h2, hc] <;> rfl
      rw [e2]
      exact hc
  have look : ∀ {y}, scope.names.lookup y = some .free → ∃ c, (cloFrom X.env.cells scope.names []).lookup y = some c := fun {y} hl => by
    have hy : (y, NameKind.free) ∈ scope.names := PySem.mem_of_lookup hl
    exact mem_lookup (cloFrom_has (cells := X.env.cells) (acc := []) hy)
  have cellK : ∀ {c : Addr} {v : Option Value}, H c = none → s.heap.IsCell c v → h₁.IsCell c v := fun {c v} n ⟨o, ho, hd⟩ => by
    obtain ⟨sl, q⟩ := un.any ho n (by simp)
    exact ⟨_, kp _ _ q, hd⟩
  have noA : ∀ b : Addr, b ∉ (LamX.lamCx X A outer s1 HZ E scope f c').ex := fun b z => absurd (show b ∈ ([] : List Addr) from z) (by simp)
  refine ⟨⟨e0.mod, L.kind, rfl, rfl, Nat.le_refl _, fun y z c e1 e2 => I.ok.inj y z c (cm e1) (cm e2), fun y hy => ?_, fun y c z _ => ?_, fun _ => hd, Around.frames_deeper e0.frames, .inr ⟨rfl, rfl⟩, fun b z => absurd z (noA b), e0.bs, e0.bsz, fun b _ _ => noA b,
      fun b z => absurd z (noA b), e0.funs, e0.frf⟩,
    rfl, e0.bare, Un.kept kp, ⟨_, hns, fun i y v e1 e2 e3 => ?_⟩, fun y c e => ?_, e0.hok.fresh (Nat.le_refl _), fun y c e => ?_, fun q hq => absurd (show q ∈ ([] : List (Addr × Obj)) ++ [] from hq) (by simp), e0.hok.kept kp, I.len⟩
  · have hy : scope.names.lookup y = some .cell ∨ scope.names.lookup y = some .free := hy
    rcases hy with hy | hy
    · exact absurd rfl (L.own _ (PySem.mem_of_lookup hy)).1
    · exact look hy
  · have z : false = true := z
    cases z
  · have e3 : Vis scope y := e3
    rcases e3 with k | k | k
    · exact absurd (show q0 ∈ X.N from (L.own _ (PySem.mem_of_lookup k)).2 rfl ▸ List.mem_of_getElem? e1) L.far
    · exact absurd rfl (L.own _ (PySem.mem_of_lookup k)).1
    · obtain ⟨m, hn, hl⟩ := I.loc
      have hvis : Vis X.env.scope y := (L.free _ (PySem.mem_of_lookup k) rfl).elim (fun k => .inr (.inl k)) (fun k => .inr (.inr k))
      obtain ⟨w', r, q⟩ := hl i y v e1 e2 hvis
      obtain ⟨c2, h2⟩ := look k
      refine ⟨w', r, .inr ⟨.inr k, c2, h2, ?_⟩⟩
      have c1 := cm h2
      rcases q with ⟨k', _⟩ | ⟨_, c3, e', z⟩
      · have k' : X.env.scope.names.lookup y = some .local := k'
        rcases L.free _ (PySem.mem_of_lookup k) rfl with k2 | k2 <;> rw [show X.env.scope.names.lookup y = _ from k2] at k' <;> cases k'
      · rw [c1] at e'
        cases e'
        exact cellK (I.freeC y _ c1) z
  · obtain ⟨w', z⟩ := I.cell y c (cm e)
    exact ⟨w', cellK (I.freeC y c (cm e)) z⟩
  · obtain ⟨v, o, ho, hd⟩ := I.cell y c (cm e)
    exact un.free c o ho (I.freeC y c (cm e)) (by simp)
/-- x(), in the def that got the lambda; what it lets out is told of the slots as they stand -/
theorem act_atD {Ng : List Str} {q0 : Str} {v0 doc : Value} {t0 : Addr} {x : Str} {st : Stmt} {g f c' : Addr} {cdg pm ctv : Value} {params : Arguments} {body : Expr} {scope : Scope} {k i : Nat} {a : Str} {pn : List (Addr × Obj)} {xe : Value → Shared → Prop} {W' : WX} {t : XK → TE} {p1 p2 : Pos}
    (I : Inv X pins σ H s) (L : LamSD X.env.scope scope X.N q0) (hf : s.heap.get? f = some (PySem.W.kdv_obj "<lambda>" (X.env.qual ++ "<lambda>") params (.expr body) scope (cloFrom X.env.cells scope.names []) (.ref t0) doc pm c' ctv)) (hfn : H f = none) (hfr : f ∉ frs X.stack) (hT : s.heap.get? t0 = some (PySem.W.kdv_tup [v0])) (hTn : H t0 = none) (hTr : t0 ∉ frs X.stack)
    (hbind : BindD params body scope q0)
    (tk : Takes ((tCx X.prog X.w X.K X.mg X.base Ng x st g cdg X.A X.stack s H).tr pn xe) W') (hr : Room (k + 1) (X.A.deeper (envOfC x (defScope st) s.heap.objs.size g cdg)))
    (hbody : ∀ (A : Around) (outer : List PySem.Env) (s : Shared) (H : Hp) (E : XK), Room k (A.deeper (LamX.lamEnv X scope s.heap.objs.size f c')) → Takes (LamX.lamCx X A outer s H E scope f c') (fun cls d _ H => E cls d H) → PE (LamX.lamCx X A outer s H E scope f c') body (t E))
    (hN : Ng[i]? = some a) (hv : Vis (defScope st) a) (hd : (a == ("__debug__" : Str)) = false) (hcd : (a == ("__classdict__" : Str)) = false) :
    PE ((tCx X.prog X.w X.K X.mg X.base Ng x st g cdg X.A X.stack s H).tr pn xe) (.Call (.Name a p1) [] [] p2)
      (fun σZ HZ Q => σZ[i]? = some (some (.ref f)) ∧ HZ c' = some (LamX.CodeO c' (X.env.qual ++ "<lambda>")) ∧ t (fun cls d H' => W' cls d σZ H') σ HZ Q) := by
  refine ⟨fun pZ sZ σZ HZ Q IZ ⟨hs, hc, ht⟩ => ?_⟩
  have name := (pe_var (X := (tCx X.prog X.w X.K X.mg X.base Ng x st g cdg X.A X.stack s H).tr pn xe) (pos := p1) (i := i) hN hv hd hcd).run pZ sZ σZ HZ (fun v H1 => v = .ref f ∧ H1 = HZ) IZ ⟨_, hs, rfl, rfl⟩
  refine wpAny_Call_Name_kw (thn name fun u s1 ⟨v, H1, I1, r1, e1, e2⟩ => ?_)
  subst e1
  rw [e2] at I1
  obtain rfl : u = Value.ref f := r1
  have un : Un (frs X.stack) [] H HZ s.heap s1.heap := I1.base
  have of1 := un.keep f _ hf hfn hfr (fun z => nomatch (show f ∈ ([] : List Addr) from z))
  have oT := un.keep t0 _ hT hTn hTr (fun z => nomatch (show t0 ∈ ([] : List Addr) from z))
  refine PySem.W.callWith_F0 ⟨_, _, _, _, of1⟩ ?_
  obtain ⟨⟨oc, vs, tt, q1, q2, q3⟩, _, _⟩ := I1.hok c' _ hc
  have run : codeAny (model X.prog X.w) (X.A.deeper (envOfC x (defScope st) s.heap.objs.size g cdg)) (.call (.ref f) ⟨[], []⟩)
      (CR (L2.CX X.prog X.w) (envOfC x (defScope st) s.heap.objs.size g cdg :: X.stack) X.prog X.w HZ s1 Q (fun cls d H' => W' cls d σZ H')) s1 := by
    refine PySem.W.kla_callFunE hr.depth of1 rfl L.co L.gen rfl ⟨c', oc, vs, tt, rfl, q1, q2, q3⟩ ?_
    obtain ⟨kk, b1, b2⟩ := hbind (X.env.qual ++ "<lambda>") (cloFrom X.env.cells scope.names []) (.ref t0) doc pm (.ref c') ctv v0
    refine PySem.BindsTo.of_defaults rfl oT rfl b1 b2 _ _ _ _ (wpAny_newFunctionEnv (fun y hy => (L.own y hy).1) (fun y hy => by rw [List.mem_singleton.mp hy]; exact L.ps) (fun h₁ hns hsb => ⟨I1.nolimit.fresh _ hsb, ?_⟩) L.kind)
    have J : Inv (LamX.lamCx X (X.A.deeper (envOfC x (defScope st) s.heap.objs.size g cdg)) (envOfC x (defScope st) s.heap.objs.size g cdg :: X.stack) s1 HZ (fun cls d H' => W' cls d σZ H') scope f c') [] σ HZ { s1 with heap := h₁, toks := s1.toks + [(q0, v0)].length } :=
      lam_startD (bs := [(q0, v0)]) I L I1.env0 hr.hd un hns fun b o e => hsb.extBut b o (Nat.ne_of_lt (Heap.lt_size e)) (Heap.get?_push_of_some _ e)
    refine PySem.W.kla_codeExpr (wpAny_mono ((hbody _ _ s1 HZ _ (hr.deeper _) (takes_of rfl rfl rfl rfl)).run [] _ _ HZ Q J ht) (fun v s' ⟨w', H', J', rv, q⟩ => ?_) fun e s' hq => hq)
    exact ⟨w', H', J'.os, J'.bare, J'.base, J'.hok, rv, q⟩
  refine wpAny_call (codeAny_mono run fun r s' hq => ?_)
  cases r with
  | error e => exact passAt tk σZ pZ HZ s1 e s' I1 hq
  | ok fl =>
    cases fl with
    | ret u => exact I1.after hq
    | next => exact False.elim hq
    | brk => exact False.elim hq
    | cont => exact False.elim hq

/-- the lambda is made: nothing that was tracked is lost, tables alone change -/
theorem lam_tailD {T : List (Addr × Str)} {q0 : Str} {v0 : Value} {t0 : Addr} {c P : Addr} {params : Arguments} {body : Expr} {scope : Scope} {lpos : Pos} {E : Value → Shared → Prop} {Q : Value → Shared → Prop} (I : Inv X pins σ H s) (TB : LamX.TabB X.base X.mg c P) (hcode : X.env.code = .ref c)
    (hm : (P, X.env.qual ++ "<lambda>") ∈ T) (hu : ∀ p ∈ T, p.1 = P → p.2 = X.env.qual ++ "<lambda>") (hT : LamX.Tabs T H) (L : LamSD X.env.scope scope X.N q0) (oT : s.heap.get? t0 = some (PySem.W.kdv_tup [v0])) (nT : H t0 = none) (rT : t0 ∉ frs X.stack)
    (h : ∀ (f c' : Addr) (pm ctv doc : Value) (H1 : Hp) (s' : Shared), Inv X pins σ H1 s' → LamX.ExtN H H1 → LamX.Tabs T H1 → (∀ b, H b ≠ none → H1 b ≠ none) →
      s'.heap.get? f = some (PySem.W.kdv_obj "<lambda>" (X.env.qual ++ "<lambda>") params (.expr body) scope (cloFrom X.env.cells scope.names []) (.ref t0) doc pm c' ctv) → H1 f = none → f ∉ frs X.stack → s'.heap.get? t0 = some (PySem.W.kdv_tup [v0]) → H1 t0 = none → t0 ∉ frs X.stack → H1 c' = some (LamX.CodeO c' (X.env.qual ++ "<lambda>")) → Q (.ref f) s') :
    wpAny (model X.prog X.w) X.A (makeTail "<lambda>" (X.env.qual ++ "<lambda>") params (.expr body) scope X.env (.ref t0) .none none lpos lpos.line) Q E s := by
  obtain ⟨ps, hP, ht, ha⟩ := hT _ hm
  have hP' : s.heap.get? P = some { cls := .none, data := .fields ps } := I.hok P _ hP
  have bP := TB.bm.keeps I.bk
  have clo := closure_ok (L.has I.ok)
  have far : ∀ b, s.heap.objs.size ≤ b → b ∉ frs X.stack := fun b hb z => by
    cases List.mem_cons.mp (I.stkSub _ z) with
    | inl e => exact absurd (e ▸ I.lt) (Nat.not_lt.mpr hb)
    | inr e => exact I.nofs hb e
  cases hc : codeAmong lpos ps.toList with
  | some cv =>
    obtain ⟨c', rfl, hco⟩ := ha lpos cv hc
    refine PySem.W.kdv_makeTailHit (mg := X.mg) (c := c) (P := P) (ps := ps) clo I.ok.glob (I.mod.glob.keeps I.bk) hcode (TB.code.keeps I.bk) hP' ht hc bP fun ctv doc h' tk hx hsz => ?_
    exact h h'.objs.size c' _ ctv doc H _ (I.kept fun b o e => Heap.get?_push_of_some _ (hx b o e)) (.refl H) hT (fun _ z => z) (Heap.get?_push_size _ rfl) (I.hok.fresh hsz) (far _ hsz) (Heap.get?_push_of_some _ (hx _ _ oT)) nT rT hco
  | none =>
    refine PySem.W.kdv_makeTail (mg := X.mg) (c := c) (P := P) (ps := ps) clo I.ok.glob (I.mod.glob.keeps I.bk) hcode (TB.code.keeps I.bk) hP' ht hc TB.gP bP fun c' ctv doc h' tk hx hge hlt hrec htb => ?_
    obtain ⟨_, oc, vs, t, ec, hoc, hd, hv⟩ := hrec
    cases ec
    have hsz : s.heap.objs.size ≤ h'.objs.size := Nat.le_trans hge (Nat.le_of_lt hlt)
    have nC : H c' = none := I.hok.fresh hge
    let H1 : Hp := upd (upd H P (.tbl (ps ++ #[rawInt lpos.line, rawInt lpos.col, .ref c']))) c' (LamX.CodeO c' (X.env.qual ++ "<lambda>"))
    have at1 : ∀ b, b ≠ P → H b ≠ none → H1 b = H b := fun b n e => by
      cases q : H b with
      | none => exact absurd q e
      | some o => exact (upd_ne (ne_of_none q nC)).trans ((upd_ne n).trans q)
    have at2 : H1 P = some (.tbl (ps ++ #[rawInt lpos.line, rawInt lpos.col, .ref c'])) := (upd_ne (ne_of_none hP nC)).trans upd_same
    have ext : LamX.ExtN H H1 := fun b o e n => (at1 b (fun z => n ps (by rw [z, hP] at e; exact (Option.some.inj e).symm)) (nn e)).trans e
    have code : ∀ {b : Addr} {q : Str}, H b = some (LamX.CodeO b q) → H1 b = some (LamX.CodeO b q) := fun e => ext _ _ e LamX.codeO_ne
    have I1 := LamX.inv_table (t' := tk) (more := #[rawInt lpos.line, rawInt lpos.col, .ref c']) (h' := h'.push (PySem.W.kdv_obj "<lambda>" (X.env.qual ++ "<lambda>") params (.expr body) scope (cloFrom X.env.cells scope.names []) (.ref t0) doc ((X.mg "__name__").getD .none) c' ctv)) I hP
      (fun b o hb e => Heap.get?_push_of_some _ (hx b o hb e)) (Heap.get?_push_of_some _ htb) hge ⟨oc, vs, t, Heap.get?_push_of_some _ hoc, hd, hv⟩
    have tabs : LamX.Tabs T H1 := fun p hp => by
      by_cases hb : p.1 = P
      · rw [hu p hp hb, hb]
        have eL : (ps ++ #[rawInt lpos.line, rawInt lpos.col, .ref c']).toList = ps.toList ++ [rawInt lpos.line, rawInt lpos.col, .ref c'] := by simp
        refine ⟨_, at2, by rw [eL]; exact PySem.TriplesOk_snoc _ _ _ _ ht, fun p' cv hcv => ?_⟩
        rw [eL] at hcv
        cases LamX.among_app _ ht hcv with
        | inl z => obtain ⟨c0, e1, e2⟩ := ha p' cv z; exact ⟨c0, e1, code e2⟩
        | inr z => exact ⟨c', z, upd_same⟩
      · obtain ⟨ps', a1, a2, a3⟩ := hT p hp
        refine ⟨ps', (at1 p.1 hb (nn a1)).trans a1, a2, fun p' cv hcv => ?_⟩
        obtain ⟨c0, e1, e2⟩ := a3 p' cv hcv
        exact ⟨c0, e1, code e2⟩
    have tP : t0 ≠ P := fun e => by rw [e, hP] at nT; cases nT
    refine h h'.objs.size c' _ ctv doc H1 _ I1 ext tabs (fun b e => ?_) (Heap.get?_push_size _ rfl) ?_ (far _ hsz) (Heap.get?_push_of_some _ (hx _ _ tP oT)) ?_ rT upd_same
    · by_cases hb : b = P
      · rw [hb, at2]; exact fun z => nomatch z
      · rw [at1 b hb e]; exact e
    · show upd (upd H P _) c' _ h'.objs.size = none
      rw [upd_ne (Nat.ne_of_gt hlt), upd_ne (Nat.ne_of_gt (Nat.lt_of_lt_of_le (Heap.lt_size hP') hsz))]
      exact I.hok.fresh hsz
    · show upd (upd H P _) c' _ t0 = none
      rw [upd_ne (Nat.ne_of_lt (Nat.lt_of_lt_of_le (Heap.lt_size oT) hge)), upd_ne tP]
      exact nT
/-- the lambda is made: nothing that was tracked is lost, tables alone change -/
theorem lam_atD {T : List (Addr × Str)} {q0 : Str} {z0 : Int} {kd : Nat} {pd : Pos} {c P : Addr} {params : Arguments} {body : Expr} {scope : Scope} {lpos : Pos} {E : Value → Shared → Prop} {Q : Value → Shared → Prop} (I : Inv X pins σ H s) (TB : LamX.TabB X.base X.mg c P) (hcode : X.env.code = .ref c)
    (hm : (P, X.env.qual ++ "<lambda>") ∈ T) (hu : ∀ p ∈ T, p.1 = P → p.2 = X.env.qual ++ "<lambda>") (hT : LamX.Tabs T H) (hd0 : params.defaults = [.Constant (.int z0) kd pd]) (hk0 : params.kw_defaults = []) (L : LamSD X.env.scope scope X.N q0)
    (h : ∀ (f c' t0 : Addr) (v0 doc pm ctv : Value) (H1 : Hp) (s' : Shared), Inv X pins σ H1 s' → LamX.ExtN H H1 → LamX.Tabs T H1 → (∀ b, H b ≠ none → H1 b ≠ none) →
      s'.heap.get? f = some (PySem.W.kdv_obj "<lambda>" (X.env.qual ++ "<lambda>") params (.expr body) scope (cloFrom X.env.cells scope.names []) (.ref t0) doc pm c' ctv) → H1 f = none → f ∉ frs X.stack → s'.heap.get? t0 = some (PySem.W.kdv_tup [v0]) → H1 t0 = none → t0 ∉ frs X.stack → H1 c' = some (LamX.CodeO c' (X.env.qual ++ "<lambda>")) → Q (.ref f) s') :
    wpAny (model X.prog X.w) X.A (eval (.Lambda params body scope lpos) X.env) Q E s := by
  obtain ⟨ps, hP, ht, ha⟩ := hT _ hm
  have hP' : s.heap.get? P = some { cls := .none, data := .fields ps } := I.hok P _ hP
  have bP := TB.bm.keeps I.bk
  have clo := closure_ok (L.has I.ok)
  have far : ∀ b, s.heap.objs.size ≤ b → b ∉ frs X.stack := fun b hb z => by
    cases List.mem_cons.mp (I.stkSub _ z) with
    | inl e => exact absurd (e ▸ I.lt) (Nat.not_lt.mpr hb)
    | inr e => exact I.nofs hb e
  refine PySem.W.kdv_lam (by rw [hd0]; rfl) hk0 ?_
  rw [hd0]
  refine PySem.W.kdv_all1 (wpAny_Constant_int (PySem.W.kdv_all0 ?_))
  rw [makeFunction_eq]
  simp only [List.zip_nil_right, List.filterMap_nil, List.isEmpty_nil, List.isEmpty_cons, if_true, pure_bind, Bool.false_eq_true, if_false]
  refine wpAny_bind (wpAny_newTextTuple ?_)
  exact lam_tailD (I.kept fun b o e => Heap.get?_push_of_some _ e) TB hcode hm hu hT L (Heap.get?_push_size _ rfl) (I.hok.fresh (Nat.le_refl _)) (far _ (Nat.le_refl _)) fun f c' pm ctv doc H1 s' a1 a2 a3 a4 a5 a6 a7 a8 a9 a10 a11 => h f c' _ _ doc pm ctv H1 s' a1 a2 a3 a4 a5 a6 a7 a8 a9 a10 a11
/-- x(lambda: body), x a def that calls what it got -/
theorem q_toldV0 {x a q0 : Str} {z0 : Int} {kd : Nat} {pd : Pos} {st : Stmt} {g c P : Addr} {fd : FuncData} {k : Nat} {Ng : List Str} {params : Arguments} {body : Expr} {scope : Scope} {m : ME} {mb : TR → MS} {p lpos pos : Pos}
    (Fg : Fun X.K x x st g fd) (Sg : FnScope Ng [a] (defScope st)) (hNg : Ng[0]? = some a) (hva : Vis (defScope st) a) (hbg : Binds X.K fd [a] [])
    (To : ToldOk X.prog X.w X.K X.mg X.base (k + 1) Ng x st g a mb) (hg : Gl X x) (hm : X.mg x = some (.ref g))
    (TB : LamX.TabB X.base X.mg c P) (hcode : X.env.code = .ref c) (hmT : (P, X.env.qual ++ "<lambda>") ∈ Tab.T) (hu : ∀ p ∈ Tab.T, p.1 = P → p.2 = X.env.qual ++ "<lambda>") (hr : Room (k + 2) X.A) (L : LamSD X.env.scope scope X.N q0) (hd0 : params.defaults = [.Constant (.int z0) kd pd]) (hk0 : params.kw_defaults = [])
    (hbind : BindD params body scope q0)
    (hbody : ∀ (A : Around) (outer : List PySem.Env) (s : Shared) (H : Hp) (E : XK) (f c' : Addr) (L' : Addr), Room k (A.deeper (LamX.lamEnv X scope L' f c')) → Takes (LamX.lamCx X A outer s H E scope f c') (fun cls d _ H => E cls d H) → @QE _ zTrue (LamX.lamCx X A outer s H E scope f c') (fun cls d _ H => E cls d H) body m)
    (hdb : (x == ("__debug__" : Str)) = false := by decide) (hd : (a == ("__debug__" : Str)) = false := by decide) (hcd : (a == ("__classdict__" : Str)) = false := by decide) :
    QE X W (.Call (.Name x p) [.Lambda params body scope lpos] [] pos) (mTold Ng.length m mb) := by
  obtain ⟨oc, od, kV, doc, pm0, an, cdv, ct, osl, efd, lk, hcg⟩ := Fg.ex
  refine ⟨fun pins s σ H Q I h => ?_⟩
  obtain ⟨Z, F, ρ, S, kk⟩ := h
  refine wpAny_Call_Name_kw (ld_glob I hg hm ?_ hdb)
  refine PySem.W.callWith_K (h₀ := X.base) I.ok.mod.kin Fg.kp ?_ (by rfl) (by rfl)
  show wpAny _ _ (spliced ((false, eval (.Lambda params body scope lpos) X.env) :: backTo pos (starEach [] X.env))) _ _ s
  refine Calls.spliced_cons (lam_atD I TB hcode hmT hu S.tabs hd0 hk0 L fun f c' t0 v0 doc pm' ctv H1 s' I1 eN T1 hdom hf hfn hfr hT0 hTn hTr hco => ?_)
  refine Calls.spliced_nil ⟨I1.kIn, ?_⟩
  obtain ⟨S1, st1⟩ := S.extN eN T1 hdom
  have rc : codeAny (model X.prog X.w) X.A (.call (.ref g) ⟨[.ref f], []⟩) (CR C8.CX0 X.stack X.prog X.w H1 s' Q C8.E0) s' := by
    subst efd
    refine LamX.run_ofS (N := Ng) (ps := [a]) (us := [.ref f]) (vs := [.ref f]) lk hcg Sg hr I1.env0 (hbg s' [.ref f] I1.kIn rfl) (.cons rfl .nil) rfl fun hr' => ?_
    -- the def's body, in the zone that it is entered in
    have Ar : ArgsOk X.K F H1 [.ref f] [.opq .unk] := ⟨rfl, fun i sv e => ?_, fun i d e => ?_, fun i j b ⟨d, e, _⟩ _ => ?_, S1.tabs, S1.fl⟩
    · have body := (To (zAt (zone H1 F [.ref f] [.opq .unk])) cdv X.A X.stack s' H1 (trOf m ρ) hr' fun pn xe W' p1 p2 tk => ?_).nox
      · refine ⟨_, body, zone H1 F [.ref f] [.opq .unk], F, entry Ng.length [.opq .unk], ?_, ?_⟩
        · exact @start_ok _ (zAt (zone H1 F [.ref f] [.opq .unk])) X.K Ng [.ref f] [.opq .unk] F H1 Ar S1.al (by
            have := (List.getElem?_eq_some_iff.mp hNg).1
            exact this) rfl
        · refine @body_end _ (zAt (zone H1 F [.ref f] [.opq .unk])) X.K X.mg (tCx X.prog X.w X.K X.mg X.base Ng x st g cdv X.A X.stack s' H1).nox [.ref f] [.opq .unk] F H1 Q C8.E0 (mb (trOf m ρ)) Ng.length (L2.start Ng [.ref f]) rfl rfl Ar (by
            have := (List.getElem?_eq_some_iff.mp hNg).1
            exact this) ?_
          unfold mTold at kk
          cases gf : fn Ng.length (mb (trOf m ρ)) [.opq .unk] with
          | no => rw [gf] at kk; exact kk.elim
          | exc e => rw [gf] at kk; exact kk.elim
          | ok r outs =>
            rw [gf] at kk
            dsimp only
            intro v H' F1 ce oo ro
            have he : ∀ b, F b → H' b = H1 b := fun b fb => ce.keep b fb fun i => not_mut
            have hx : ∀ b u, ¬ Z.F b → (∀ ps, u ≠ .tbl ps) → H1 b = some u → H' b = some u := fun b u nz nt e => by
              by_cases fb : F b
              · rw [he b fb]; exact e
              · exact ce.car.rd b u fb nt e
            have S2 : SR X.K Z F1 ρ σ H' := S1.car ce.car ce.up he ce.al ce.dom hx fun b o fb nb e => ce.fl b o fb e
            have st2 : Step σ F F1 ρ ρ H1 H' := ⟨ce.car, fun b fb => .inl (ce.up b fb), fun b fb _ => he b fb, fun _ _ o => o, ce.dom, fun _ h => h⟩
            cases r with
            | dat d => exact kk H' F1 S2 (st1.trans st2) v ro trivial
            | own d =>
              obtain ⟨b, rfl, fb, ob, nb⟩ := ro
              have no := S1.noown nb
              refine kk H' F1 S2 (st1.trans st2) _ ⟨b, rfl, fb, ob, no.2.1, no.2.2⟩ fun b' e => ?_
              cases e
              cases q : H b with
              | none => rfl
              | some o => exact absurd nb (hdom b (nn q))
            | par d => exact ro.elim
            | opq o => exact kk H' F1 S2 (st1.trans st2) v ro trivial
      · -- the lambda's call
        refine PE.of (act_atD (t := fun E => @RE _ zTrue X (fun cls d _ H => E cls d H) m) I1 L hf hfn hfr hT0 hTn hTr hbind tk hr' (fun A outer s2 H2 E hr2 tk2 => hbody A outer s2 H2 E f c' _ hr2 tk2) hNg hva hd hcd) fun σZ HZ Q' h => ?_
        exact act_read (zAt (zone H1 F [.ref f] [.opq .unk])) (fun _ z => z) S1.len (fun i d e _ => S1.slot i _ e) S1.fl hco h
    · cases i with
      | zero => simp at e; subst e; exact ⟨_, rfl, trivial⟩
      | succ i => simp at e
    · cases i with
      | zero => simp at e
      | succ i => simp at e
    · cases i with
      | zero => simp at e
      | succ i => simp at e
  refine wpAny_call (codeAny_mono rc fun r s2 hq => ?_)
  cases r with
  | error e => exact (show False from hq).elim
  | ok fl =>
    cases fl with
    | ret u => exact I1.after hq
    | next => exact False.elim hq
    | brk => exact False.elim hq
    | cont => exact False.elim hq
end

theorem q_toldV [Tab] [Zok] {X : Cx} {W : WX} {x a q0 : Str} {z0 : Int} {kd : Nat} {pd : Pos} {c P : Addr} {k j n : Nat} {Ng : List Str} {params : Arguments} {body : Expr} {scope : Scope} {m : ME} {mb : TR → MS} {p lpos pos : Pos} (To : ToldD X.prog X.w X.K X.mg X.base k Ng x a mb) (hg : Gl X x)
    (TB : LamX.TabB X.base X.mg c P) (hcode : X.env.code = .ref c) (hmT : (P, X.env.qual ++ "<lambda>") ∈ Tab.T) (hu : ∀ p ∈ Tab.T, p.1 = P → p.2 = X.env.qual ++ "<lambda>") (hr : Room j X.A) (hj : k + 2 ≤ j) (hn : Ng.length = n) (L : LamSD X.env.scope scope X.N q0) (hd0 : params.defaults = [.Constant (.int z0) kd pd]) (hk0 : params.kw_defaults = [])
    (hbind : BindD params body scope q0)
    (hbody : ∀ (A : Around) (outer : List PySem.Env) (s : Shared) (H : Hp) (E : XK) (f c' : Addr) (L' : Addr), Room k (A.deeper (LamX.lamEnv X scope L' f c')) → Takes (LamX.lamCx X A outer s H E scope f c') (fun cls d _ H => E cls d H) → @QE _ zTrue (LamX.lamCx X A outer s H E scope f c') (fun cls d _ H => E cls d H) body m)
    (hdb : (x == ("__debug__" : Str)) = false := by decide) (hd : (a == ("__debug__" : Str)) = false := by decide) (hcd : (a == ("__classdict__" : Str)) = false := by decide) :
    QE X W (.Call (.Name x p) [.Lambda params body scope lpos] [] pos) (mTold n m mb) := by
  obtain ⟨st, g, fd, F1, F2, F3, F4, F5, F6, F7⟩ := To.ex
  subst hn
  exact q_toldV0 F1 F2 F3 F4 F5 F7 hg F6 TB hcode hmT hu (hr.mono hj) L hd0 hk0 hbind hbody hdb hd hcd
end PD

namespace PD
open PySem PySem.Spec PyProof.Rows L2
/-- no pair: data, not changed later -/
def mDict0 : ME := fun ρ => .ok (.dat (.dict [])) ρ
section
variable [Tab] [Zok] {X : Cx} {W : WX}
theorem q_dict0 {pos : Pos} : QE X W (.Dict [] [] pos) mDict0 := by
  refine PE.of pe_dnewK fun σ H Q hq => ?_
  obtain ⟨Z, F, ρ, S, k⟩ := hq
  intro p np
  obtain ⟨S0, st0⟩ := S.newOwn (o := .dK []) np trivial
  have no := S.noown np
  have S1 := S0.drop (q := fun a => a = p) (fun a e => by rw [e]; exact no.2.1) (fun a e i => by rw [e]; exact no.2.2 i)
  have ne : ∀ a, H a ≠ none → a ≠ p := fun a h e => h (by rw [e]; exact np)
  have step : Step σ F (fun a => (F a ∨ a = p) ∧ ¬ a = p) ρ ρ H (upd H p (.dK [])) := {
    car := ⟨fun a u n t e => st0.car.rd a u n t e, fun a f => st0.car.fr a f.1, fun t => st0.car.tb t⟩
    kp := fun a f => .inl ⟨.inl f, ne a (S.al a f)⟩
    tm := st0.tm
    ow := st0.ow
    dom := st0.dom
    has := st0.has }
  exact k _ _ S1 step (.ref p) (.dct (fun z => z.2 rfl) upd_same .nil) trivial
end
@[simp] theorem r_mDict0 (ρ : Env) : mDict0 ρ = .ok (.dat (.dict [])) ρ := (rfl)
end PD

namespace PD
open PySem PySem.Spec PyProof.Rows L2
/-! ### what a module has written down: tuples, texts -/
/-- a value of the written part that is read as d -/
def RepK (K : PySem.W.Frag) (v : V) (d : D) : Prop := ∀ F H, Rep K F H v d
def RepKs (K : PySem.W.Frag) (xs : List V) (ds : List D) : Prop := ∀ F H, RepAll K F H xs ds
def GlobD (K : PySem.W.Frag) (mg : Str → Option Value) (x : Str) (d : D) : Prop := ∃ (v : V) (u : Value), mg x = some u ∧ RelV v u ∧ RepK K v d
theorem rk_int {K : PySem.W.Frag} (i : Int) : RepK K (.int i) (.int i) := fun _ _ => .int i
theorem rk_str {K : PySem.W.Frag} (x : Str) : RepK K (.str x) (.str x) := fun _ _ => .str x
theorem rks_nil {K : PySem.W.Frag} : RepKs K [] [] := fun _ _ => .nil
theorem rks_cons {K : PySem.W.Frag} {v : V} {vs : List V} {d : D} {ds : List D} (h : RepK K v d) (t : RepKs K vs ds) : RepKs K (v :: vs) (d :: ds) := fun F H => .cons (h F H) (t F H)
theorem rk_tup {K : PySem.W.Frag} {a : Addr} {o : Obj} {its : Array Value} {n : Nat} {xs : List V} {ds : List D} (l : K.lookup a = some o) (c : o.cls = .type "tuple") (d : o.data = .seq its n) (s : its.size ≤ sizeLine) (v : Vals xs its.toList) (r : RepKs K xs ds) : RepK K (.ref a) (.tuple ds) := fun F H => .tupK l c d s v (r F H)
theorem globT_mk {K : PySem.W.Frag} {h : Heap} {mg : Str → Option Value} {x : Str} {a : Addr} {d : D} (X : K.In h) (G : h.Ns mainGlobals mg) (e : PySem.W.nsIn K mainGlobals x = some (some (.ref a))) (r : RepK K (.ref a) d) : GlobD K mg x d := ⟨.ref a, .ref a, PySem.W.mg_of X G e, rfl, r⟩
theorem globS_mk {K : PySem.W.Frag} {h : Heap} {mg : Str → Option Value} {x y : Str} {t : Tok} (X : K.In h) (G : h.Ns mainGlobals mg) (e : PySem.W.nsIn K mainGlobals x = some (some (.str y t))) : GlobD K mg x (.str y) := ⟨.str y, .str y t, PySem.W.mg_of X G e, ⟨t, rfl⟩, rk_str y⟩
theorem q_globD [Tab] [Zok] {X : Cx} {W : WX} {x : Str} {d : D} {pos : Pos} (hg : Gl X x) (hm : GlobD X.K X.mg x d) (hd : (x == ("__debug__" : Str)) = false := by decide) : QE X W (.Name x pos) (mC d) := by
  obtain ⟨v, u, h1, h2, h3⟩ := hm
  exact q_glob hg h1 h2 h3 hd
@[simp] theorem r_sPar3 (p q o : Nat × Bool) (ma mb mc : ME) (ρ : Env) : sPar3 p q o ma mb mc ρ = (ma ρ).bindS fun r ρ1 => (mb ρ1).bindS fun t ρ2 => (mc ρ2).bindS fun u ρ3 => match put1 p.2 p.1 r ρ3 with
  | some ρ4 => match t, u with
    | .bor _, _ => .no
    | .thg _, _ => .no
    | _, .bor _ => .no
    | _, .thg _ => .no
    | _, _ => match put1 q.2 q.1 t ρ4 with
      | some ρ5 => match put1 o.2 o.1 u ρ5 with
        | some ρ6 => .next ρ6
        | none => .no
      | none => .no
  | none => .no := (rfl)
@[reducible] def fragOf {K : PySem.W.Frag} {h : Heap} (_ : K.In h) : PySem.W.Frag := K
end PD

namespace PD
open PySem PySem.Spec PyProof.Rows L2
/-! ### range down, by one -/
def rangeN (a b : Int) : List D := (List.range (a - b).toNat).map fun i => .int (a + (i : Nat) * (-1))
def iRangeN (a : MEs) : MI := fun ρ => (a ρ).bind fun rs ρ1 => match rs with
  | [.dat (.int i), .dat (.int j), .dat (.int c)] => if rOk i && rOk j && decide (c = -1) then .ok (rangeN i j) ρ1 else .no
  | _ => .no
section
variable [Tab] [Zok] {X : Cx} {W : WX} {K : PySem.W.Frag} {F F1 : Forb} {H H1 : Hp} {v : V}
omit [Zok] in
theorem iter_rangeN (a b : Int) : IterOk K F H (Itc a (-1) (a - b).toNat) (rangeN a b) where
  go := fun F1 H1 c i hi => by
    have h : i < (a - b).toNat := by simpa [rangeN] using hi
    exact h
  stop := fun F1 H1 c => by
    have h : (rangeN a b).length = (a - b).toNat := by simp [rangeN]
    rw [h]
    exact Nat.le_refl _
  yld := fun F1 H1 c _ i x H2 hi y => by
    obtain ⟨e, y⟩ := y
    subst y
    refine ⟨.inl e, .int (a + (i : Nat) * (-1)), ?_, .int _⟩
    have hi' : i < (a - b).toNat := by simpa [rangeN] using hi
    simp [rangeN, hi']
omit [Zok] in
theorem ints3 {Z : Zone} {ρ : Env} {σ : St} {vs : List V} {i j c : Int} (h : VsOk K Z F ρ σ H vs [.dat (.int i), .dat (.int j), .dat (.int c)]) : vs = [.int i, .int j, .int c] := by
  cases h with
  | cons a b =>
    cases (show Rep K F H _ (.int i) from a)
    rw [ints2 b]
theorem qi_rangeN {tg a b c : Expr} {m : MEs} {p pos : Pos} (hg : Gl X "range") (hm : X.mg "range" = none) (ha : QA X W [a, b, c] m)
    (hs : starEach [a, b, c] X.env = (false, eval a X.env) :: starEach [b, c] X.env := by rfl) (hpl : (backTo pos (starEach [b, c] X.env)).any (·.1) = false := by rfl) :
    QI X W tg (.Call (.Name "range" p) [a, b, c] [] pos) (iRangeN m) := by
  refine PI.of (pi_range3 hg hm ha hs hpl) fun σ H R hq => ?_
  obtain ⟨Z, F, ρ, S, k⟩ := hq
  refine ⟨Z, F, ρ, S, Post.bind k fun rs ρ1 H1 F1 e1 S1 st1 k1 vs vo nw => ?_⟩
  split at k1
  · rename_i i j c
    split at k1
    · rename_i hj
      have e := ints3 vo
      rw [Bool.and_eq_true, Bool.and_eq_true, decide_eq_true_eq] at hj
      obtain ⟨⟨hj1, hj2⟩, rfl⟩ := hj
      obtain ⟨h1, h2⟩ := rOk_of hj1
      obtain ⟨h3, h4⟩ := rOk_of hj2
      exact ⟨i, j, -1, (i - j).toNat, e, RgC.neg h1 h2 h3 h4, k1 H1 F1 S1 .refl _ (iter_rangeN i j)⟩
    · exact k1.elim
  · exact k1.elim
/-! ### list(range(..)): a new list -/
omit [Tab] [Zok] in
def mLR1 (a : ME) : ME := fun ρ => (a ρ).bind fun r ρ1 => match r with
  | .dat (.int j) => if rOk j && decide (j ≤ 16777216) then .ok (.own (.list (rangeD 0 j))) ρ1 else .no
  | _ => .no
omit [Tab] [Zok] in
def mLR2 (a b : ME) : ME := fun ρ => (a ρ).bind fun r ρ1 => (b ρ1).bind fun t ρ2 => match r, t with
  | .dat (.int i), .dat (.int j) => if rOk i && rOk j && decide (j - i ≤ 16777216) then .ok (.own (.list (rangeD i j))) ρ2 else .no
  | _, _ => .no
omit [Tab] [Zok] in
theorem rep_rg (K : PySem.W.Frag) (F : Forb) (H : Hp) (f : Nat → Int) : ∀ l : List Nat, RepAll K F H (l.map fun i => V.int (f i)) (l.map fun i => PyData.int (f i))
  | [] => .nil
  | i :: l => .cons (.int _) (rep_rg K F H f l)
omit [Zok] in
theorem rOk_rg {a b : Int} (h1 : rOk a = true) (h2 : rOk b = true) (h3 : b - a ≤ 16777216) : RgOk a b := by
  obtain ⟨a1, a2⟩ := rOk_of h1
  obtain ⟨b1, b2⟩ := rOk_of h2
  exact ⟨a1, a2, b1, b2, by omega⟩
theorem q_lr1 {e : Expr} {m : ME} {p p2 pos pos2 : Pos} (hc : X.calm = true) (hg : Gl X "list") (hm : X.mg "list" = none) (hg2 : Gl X "range") (hm2 : X.mg "range" = none) (he : QE X W e m)
    (na : starEach [Expr.Call (.Name "range" p2) [e] [] pos2] X.env = (false, eval (Expr.Call (.Name "range" p2) [e] [] pos2) X.env) :: starEach [] X.env := by rfl) (nb : starEach [e] X.env = (false, eval e X.env) :: starEach [] X.env := by rfl) :
    QE X W (.Call (.Name "list" p) [.Call (.Name "range" p2) [e] [] pos2] [] pos) (mLR1 m) := by
  refine PE.of (pe_listRg hc hg hm (prg_1 hg2 hm2 he nb) na) fun σ H Q hq => ?_
  obtain ⟨Z, F, ρ, S, k⟩ := hq
  refine ⟨Z, F, ρ, S, Post.bind0 k fun r ρ1 H1 F1 e1 S1 st1 k1 v vo nw => ?_⟩
  split at k1
  · rename_i j
    split at k1
    · rename_i hj
      rw [Bool.and_eq_true, decide_eq_true_eq] at hj
      cases (show Rep X.K F1 H1 v (.int j) from vo)
      refine ⟨j, rfl, rOk_rg (a := 0) (by rfl) hj.1 (by omega), ?_⟩
      have z : (rgV 0 j).length ≤ sizeLine := by rw [rgV_length, line_eq]; show _ ≤ 16777216; omega
      exact (Post.later (o := Out.ok (RV.own (.list (rangeD 0 j))) ρ1) k1 st1).lst S1 (rep_rg X.K F1 H1 (fun i => 0 + (i : Nat)) _) z st1.dom
    · exact k1.elim
  · exact k1.elim
theorem q_lr2 {e f : Expr} {m n : ME} {p p2 pos pos2 : Pos} (hc : X.calm = true) (hg : Gl X "list") (hm : X.mg "list" = none) (hg2 : Gl X "range") (hm2 : X.mg "range" = none) (he : QE X W e m) (hf : QE X W f n)
    (na : starEach [Expr.Call (.Name "range" p2) [e, f] [] pos2] X.env = (false, eval (Expr.Call (.Name "range" p2) [e, f] [] pos2) X.env) :: starEach [] X.env := by rfl) (nb : starEach [e, f] X.env = (false, eval e X.env) :: starEach [f] X.env := by rfl)
    (nc : starEach [f] X.env = (false, eval f X.env) :: starEach [] X.env := by rfl) (hp : (backTo pos2 (starEach [f] X.env)).any (·.1) = false := by rfl) :
    QE X W (.Call (.Name "list" p) [.Call (.Name "range" p2) [e, f] [] pos2] [] pos) (mLR2 m n) := by
  refine PE.of (pe_listRg hc hg hm (prg_2 hg2 hm2 he hf nb nc hp) na) fun σ H Q hq => ?_
  obtain ⟨Z, F, ρ, S, k⟩ := hq
  refine ⟨Z, F, ρ, S, Post.bind k fun r ρ1 H1 F1 e1 S1 st1 k1 v vo nw => ⟨Z, F1, ρ1, S1, Post.bind0 k1 fun t ρ2 H2 F2 e2 S2 st2 k2 u uo nw2 => ?_⟩⟩
  split at k2
  · rename_i i j
    split at k2
    · rename_i hj
      rw [Bool.and_eq_true, Bool.and_eq_true, decide_eq_true_eq] at hj
      cases (show Rep X.K F1 H1 v (.int i) from vo)
      cases (show Rep X.K F2 H2 u (.int j) from uo)
      refine ⟨i, j, rfl, rfl, rOk_rg hj.1.1 hj.1.2 hj.2, ?_⟩
      have z : (rgV i j).length ≤ sizeLine := by rw [rgV_length, line_eq]; show _ ≤ 16777216; omega
      exact (Post.later (o := Out.ok (RV.own (.list (rangeD i j))) ρ2) k2 st2).lst S2 (rep_rg X.K F2 H2 (fun a => i + (a : Nat)) _) z (fun a h => st2.dom a (st1.dom a h))
    · exact k2.elim
  · exact k2.elim
end
@[simp] theorem r_iRangeN (a : MEs) (ρ : Env) : iRangeN a ρ = (a ρ).bind fun rs ρ1 => match rs with
  | [.dat (.int i), .dat (.int j), .dat (.int c)] => if rOk i && rOk j && decide (c = -1) then .ok (rangeN i j) ρ1 else .no
  | _ => .no := (rfl)
@[simp] theorem r_mLR1 (a : ME) (ρ : Env) : mLR1 a ρ = (a ρ).bind fun r ρ1 => match r with
  | .dat (.int j) => if rOk j && decide (j ≤ 16777216) then .ok (.own (.list (rangeD 0 j))) ρ1 else .no
  | _ => .no := (rfl)
@[simp] theorem r_mLR2 (a b : ME) (ρ : Env) : mLR2 a b ρ = (a ρ).bind fun r ρ1 => (b ρ1).bind fun t ρ2 => match r, t with
  | .dat (.int i), .dat (.int j) => if rOk i && rOk j && decide (j - i ≤ 16777216) then .ok (.own (.list (rangeD i j))) ρ2 else .no
  | _, _ => .no := (rfl)
theorem rangeN_eq (a b : Int) : rangeN a b = (List.range (a - b).toNat).map fun i => .int (a - (i : Nat)) := by
  unfold rangeN
  refine List.map_congr_left fun i _ => ?_
  congr 1
  omega
end PD

namespace PD
open PySem PySem.Spec PyProof.Rows L2
/-! ### two targets of any form, by a real tuple -/
def kIx (i : Nat) (ix : ME) (d : D) : MS := fun ρ => match mutL ρ i with
  | some _ => (ix ρ).bindS fun k ρ2 => match k, mutL ρ2 i with
    | .dat (.int n), some ds => match ixN ds.length n with
      | some j => .next (putSlot ρ2 i (.list (ds.set j d)))
      | none => .no
    | _, _ => .no
  | none => .no
def kNm (i : Nat) (d : D) : MS := fun ρ => if parAt ρ i then .no else .next (ρ.set i (some (.dat d)))
def sTgt2 (k1 k2 : D → MS) (m : ME) : MS := fun ρ => (m ρ).bindS fun r ρ1 => match frz [r] with
  | some [.tuple [d, e]] => (k1 d ρ1).bind (k2 e)
  | _ => .no
def PlainK (k : D → MS) : Prop := ∀ d ρ, match k d ρ with
  | .brk _ => False
  | .cont _ => False
  | .ret _ _ => False
  | _ => True
theorem plain_kNm (i : Nat) : PlainK (kNm i) := fun d ρ => by
  unfold kNm
  by_cases h : parAt ρ i = true
  · rw [if_pos h]; trivial
  · rw [if_neg h]; trivial
theorem plain_kIx (i : Nat) (ix : ME) : PlainK (kIx i ix) := fun d ρ => by
  unfold kIx
  cases mutL ρ i with
  | none => trivial
  | some l =>
    show match (Out.bindS (ix ρ) _) with | .brk _ => False | .cont _ => False | .ret _ _ => False | _ => True
    cases ix ρ with
    | no => trivial
    | exc e ρ' => trivial
    | ok k ρ2 =>
      show match (match k, mutL ρ2 i with
        | .dat (.int n), some ds => match ixN ds.length n with
          | some j => SO.next (putSlot ρ2 i (.list (ds.set j d)))
          | none => .no
        | _, _ => .no) with | .brk _ => False | .cont _ => False | .ret _ _ => False | _ => True
      split <;> rename_i h <;> revert h <;> split <;> (try split) <;> intro h <;> first | trivial | cases h
section
variable [Tab] [Zok] {X : Cx} {W : WX} {K : PySem.W.Frag} {Z : Zone} {σ σ1 : St} {F F1 : Forb} {ρ ρ1 : Env} {H H0 H1 : Hp}
def RK (X : Cx) (W : WX) (k : D → MS) : TG := fun v σ H Q => ∃ Z F ρ d, SR X.K Z F ρ σ H ∧ Rep X.K F H v d ∧ PostS X W Z σ F ρ H { nx := Q, rt := fun _ _ => False } (k d ρ)
theorem qk_sub {i : Nat} {o b : Expr} {ix : ME} {pos : Pos} (ho : PE X o (tVar i)) (hb : QE X W b ix)
    (ha : ∀ v, assign (.Subscript o b pos) X.env v = (do
      let ov ← holding [v] (eval o X.env)
      let iv ← holding [v, ov] (eval b X.env)
      standAt pos
      holding [v, ov, iv] (setItem ov iv v)
      release [v, ov, iv] []) := by intro _; rfl) : PG X (.Subscript o b pos) (RK X W (kIx i ix)) := by
  refine PG.of (pg_sub ho hb set_list ha) fun v σ H Q hq => ?_
  obtain ⟨Z, F, ρ, d, S, rp, k⟩ := hq
  unfold kIx at k
  cases g2 : mutL ρ i with
  | none => rw [g2] at k; exact k.elim
  | some ds0 =>
    rw [g2] at k
    obtain ⟨a, xs0, h1, f0, h2, _, _⟩ := S.own_at g2
    refine ⟨_, h1, Z, F, ρ, S, PostS.bind k fun r2 ρ2 H3 F3 e3 S3 st3 k3 v2 vo2 nw2 => ?_⟩
    split at k3
    · rename_i n ds g3
      cases g4 : ixN ds.length n with
      | none => rw [g4] at k3; exact k3.elim
      | some j =>
        rw [g4] at k3
        obtain ⟨b, xs, q1, q2, q3, q4, q5⟩ := S3.own_at g3
        rw [h1] at q1; cases q1
        obtain ⟨S4, st4⟩ := S3.mutate (vs := xs.set j v) g3 h1 (q5.set (rp.car st3.car) j) (by rw [List.length_set]; exact q4)
        exact ⟨_, xs, n, j, rfl, dat_int vo2, q3, by rw [q5.length]; exact g4, k3 _ _ _ S4 st4.s⟩
    · exact k3.elim
theorem qk_name {i : Nat} {y : Expr} (h : PG X y (gName i)) : PG X y (RK X W (kNm i)) := by
  refine PG.of h fun v σ H Q hq => ?_
  obtain ⟨Z, F, ρ, d, S, rp, k⟩ := hq
  unfold kNm at k
  split at k
  · exact k.elim
  · rename_i np
    exact k _ H F (S.set (by simpa using np) rp fun _ z => nomatch z) (step_set (.refl) S.al fun _ z => nomatch z)
theorem qs_tgt2 {t1 t2 e : Expr} {k1 k2 : D → MS} {m : ME} {pos pt : Pos} {kt : Nat} (hc : X.calm = true) (he : QE X W e m) (h1 : PG X t1 (RK X W k1)) (h2 : PG X t2 (RK X W k2)) (pk : PlainK k1) (pk2 : PlainK k2)
    (hs : swapsWithSole [.Tuple [t1, t2] kt pt] e pos.line X.env = pure false := by rfl) (hw : swappedStores [.Tuple [t1, t2] kt pt] e X.env = pure none := by rfl)
    (hn : (assignEach [t1, t2] X.env).length = 2 := by rfl) (hst : (assignEach [t1, t2] X.env).findIdx? (·.1) = none := by rfl)
    (a1 : (assignEach [t1, t2] X.env).map (·.2) = assign t1 X.env :: (assignEach [t2] X.env).map (·.2) := by rfl) (a2 : (assignEach [t2] X.env).map (·.2) = assign t2 X.env :: (assignEach [] X.env).map (·.2) := by rfl)
    (h0 : (assignEach [.Tuple [t1, t2] kt pt] X.env).map (·.2) = [assign (.Tuple [t1, t2] kt pt) X.env] := by rfl) : QS X W (.Assign [.Tuple [t1, t2] kt pt] e pos) (sTgt2 k1 k2 m) := by
  refine PS.of (ps_asg he (pg_tup (n := 2) hc (pgs_cons h1 (pgs_cons h2 pgs_nil a2) a1) hn hst) hs hw h0) fun D σ H hq => ?_
  obtain ⟨Z, F, ρ, S, k⟩ := hq
  refine ⟨Z, F, ρ, S, PostS.bind0 k fun r ρ1 H1 F1 e1 S1 st1 kk v vo nw => ?_⟩
  split at kk
  · rename_i d e g1
    obtain ⟨F2, S2, rp, l1, l2⟩ := give S1 vo nw (frz1 g1)
    have st2 := st1.lose2 S.al l1 l2
    obtain ⟨a, xs, rfl, hq, ra⟩ : ∃ a xs, v = .ref a ∧ SqT X.K H1 a xs ∧ RepAll X.K F2 H1 xs [d, e] := by
      obtain ⟨a, xs, h1, h2, _, h3, _⟩ := Top.tuple (Or.inl rp)
      exact ⟨a, xs, h1, h2, h3⟩
    cases ra with
    | cons rd rr =>
      cases rr with
      | cons re rn =>
        cases rn
        refine ⟨a, _, rfl, hq, rfl, _, _, rfl, Z, F2, ρ1, d, S2, rd, ?_⟩
        have kk2 := PostS.later kk st2.s
        have pp := pk d ρ1
        cases g : k1 d ρ1 with
        | next ρ2 =>
          rw [g] at kk2
          intro σ' H' F' S' st'
          refine ⟨_, _, rfl, Z, F', ρ2, e, S', re.car st'.car, ?_⟩
          have kk3 : PostS X W Z σ' F' ρ2 H' D (k2 e ρ2) := PostS.later kk2 st'
          have pp2 := pk2 e ρ2
          cases g2 : k2 e ρ2 with
          | next ρ3 =>
            rw [g2] at kk3
            exact fun σ2 H2 F3 S3 st3 => ⟨rfl, kk3 σ2 H2 F3 S3 st3⟩
          | exc x ρ3 => rw [g2] at kk3; exact kk3
          | no => rw [g2] at kk3; exact kk3.elim
          | brk ρ3 => rw [g2] at pp2; exact pp2.elim
          | cont ρ3 => rw [g2] at pp2; exact pp2.elim
          | ret x ρ3 => rw [g2] at pp2; exact pp2.elim
        | exc x ρ2 =>
          rw [g] at kk2
          exact kk2
        | no => rw [g] at kk2; exact kk2.elim
        | brk ρ2 => rw [g] at pp; exact pp.elim
        | cont ρ2 => rw [g] at pp; exact pp.elim
        | ret x ρ2 => rw [g] at pp; exact pp.elim
  · exact kk.elim
end
@[simp] theorem r_kIx (i : Nat) (ix : ME) (d : D) (ρ : Env) : kIx i ix d ρ = match mutL ρ i with
  | some _ => (ix ρ).bindS fun k ρ2 => match k, mutL ρ2 i with
    | .dat (.int n), some ds => match ixN ds.length n with
      | some j => .next (putSlot ρ2 i (.list (ds.set j d)))
      | none => .no
    | _, _ => .no
  | none => .no := (rfl)
@[simp] theorem r_kNm (i : Nat) (d : D) (ρ : Env) : kNm i d ρ = if parAt ρ i then .no else .next (ρ.set i (some (.dat d))) := (rfl)
@[simp] theorem r_sTgt2 (k1 k2 : D → MS) (m : ME) (ρ : Env) : sTgt2 k1 k2 m ρ = (m ρ).bindS fun r ρ1 => match frz [r] with
  | some [.tuple [d, e]] => (k1 d ρ1).bind (k2 e)
  | _ => .no := (rfl)
end PD

namespace PD
open PySem PySem.Spec PyProof.Rows L2
/-! ### repr -/
mutual
def repOk : D → Bool
  | .none | .bool _ => true
  | .int i => decide (i.natAbs.log2 < 1920)
  | .str x => x.cps.toList.all fun c => decide (c < 16 ^ 8)
  | .list xs | .tuple xs => repOkAll xs
  | .dict _ => false
def repOkAll : List D → Bool
  | [] => true
  | x :: xs => repOk x && repOkAll xs
end
mutual
theorem repOk_all : ∀ {d : D}, repOk d = true → d.plain = true ∧ d.showable = true ∧ d.hasDict = false ∧ d.leavesShort 1921 = true
  | .none, _ => ⟨rfl, rfl, rfl, rfl⟩
  | .bool _, _ => ⟨rfl, rfl, rfl, rfl⟩
  | .int i, h => by
    simp only [repOk, decide_eq_true_eq] at h
    refine ⟨rfl, by simpa [PyData.showable] using h, rfl, ?_⟩
    simp only [PyData.leavesShort, PyData.shown]
    exact decide_eq_true (PyProof.Rows.int_text_len_1921 h)
  | .str x, h => ⟨rfl, rfl, rfl, by simpa only [PyData.leavesShort, repOk] using h⟩
  | .list xs, h => by
    obtain ⟨a, b, c, d⟩ := repOkAll_all (xs := xs) (by simpa only [repOk] using h)
    exact ⟨by simpa only [PyData.plain] using a, by simpa only [PyData.showable] using b, by simpa only [PyData.hasDict] using c, by simpa only [PyData.leavesShort] using d⟩
  | .tuple xs, h => by
    obtain ⟨a, b, c, d⟩ := repOkAll_all (xs := xs) (by simpa only [repOk] using h)
    exact ⟨by simpa only [PyData.plain] using a, by simpa only [PyData.showable] using b, by simpa only [PyData.hasDict] using c, by simpa only [PyData.leavesShort] using d⟩
  | .dict _, h => by simp [repOk] at h
theorem repOkAll_all : ∀ {xs : List D}, repOkAll xs = true → PyData.plainAll xs = true ∧ PyData.showableAll xs = true ∧ PyData.hasDictAll xs = false ∧ PyData.leavesShortAll 1921 xs = true
  | [], _ => ⟨rfl, rfl, rfl, rfl⟩
  | x :: xs, h => by
    simp only [repOkAll, Bool.and_eq_true] at h
    obtain ⟨a, b, c, d⟩ := repOk_all h.1
    obtain ⟨a', b', c', d'⟩ := repOkAll_all h.2
    exact ⟨by simp only [PyData.plainAll, a, a', Bool.and_self], by simp only [PyData.showableAll, b, b', Bool.and_self], by simp only [PyData.hasDictAll, c, c', Bool.or_self], by simp only [PyData.leavesShortAll, d, d', Bool.and_self]⟩
end
theorem shown_fits {d : D} (h : repOk d = true) (hb : d.bulk ≤ 8000) : d.shown.length ≤ sizeLine := by
  have := PyData.shown_le_bulk 1921 (by decide) d (repOk_all h).2.2.2
  rw [sizeLine_eq]
  omega
/-- what repr is asked of -/
def rpOk (d : D) : Bool := repOk d && decide (d.depth ≤ 60) && decide (d.bulk ≤ 8000)
def dRepr (d : D) : Option RV := if rpOk d then some (.dat (.str d.shown)) else none
theorem rpOk_of {d : D} (h : rpOk d = true) : repOk d = true ∧ d.depth ≤ 60 ∧ d.bulk ≤ 8000 := by
  simpa only [rpOk, Bool.and_eq_true, decide_eq_true_eq, and_assoc] using h
def rRepr (X : Cx) : List V → Hp → VK → Prop := fun vs H Q => ∃ (x : V) (d : D), vs = [x] ∧ Dp X.K H x d ∧ rpOk d = true ∧ Q (.str d.shown) H
theorem cr_repr {X : Cx} (hg : X.A.guards = some []) (hu : X.A.units + 64 < cLine) : CallR X (.builtin "repr") (rRepr X) := by
  intro pins s σ H vs us Q I r h
  obtain ⟨x, d, rfl, hd, ok, q⟩ := h
  obtain ⟨h1, h2, h3⟩ := rpOk_of ok
  obtain ⟨p1, p2, p3, p4⟩ := repOk_all h1
  obtain ⟨u, rfl, rx⟩ := vals1 r
  obtain ⟨as, rd⟩ := Dp.reads I d x u hd rx
  have fin : ∀ (h' : Heap) (t tk : Tok), (∀ b o, s.heap.get? b = some o → h'.get? b = some o) → EP X pins σ Q (.str d.shown t) { s with heap := h', toks := tk } := fun h' t tk hk => ⟨.str d.shown, H, I.kept hk, ⟨_, rfl⟩, q⟩
  have fin0 : ∀ (t tk : Tok), EP X pins σ Q (.str d.shown t) { s with toks := tk } := fun t tk => fin s.heap t tk fun _ _ e => e
  have sz := shown_fits h1 h3
  cases rd with
  | none => exact PySem.P.repr_of_none (by simpa only [PyData.shown] using fin0 s.toks (s.toks + 1))
  | bool b => exact PySem.P.repr_of_bool (by simpa only [PyData.shown] using fin0 s.toks (s.toks + 1))
  | int i t => exact PySem.P.repr_of_int (by simpa only [PyData.showable, decide_eq_true_eq] using p2) (by simpa only [PyData.shown] using fin0 s.toks (s.toks + 1))
  | str y t => exact PySem.P.repr_of_str (by simpa only [PyData.shown] using fin0 s.toks (s.toks + 1)) (by simpa only [PyData.shown] using sz)
  | list a1 a2 a3 a4 => exact repr_of_reads' (.list a1 a2 a3 a4) p2 (PyData.noDict_hsm p3) hg (by omega) (fun _ _ e => e) fin sz
  | tuple a1 a2 a3 a4 => exact repr_of_reads' (.tuple a1 a2 a3 a4) p2 (PyData.noDict_hsm p3) hg (by omega) (fun _ _ e => e) fin sz
  | dict => simp [PyData.plain] at p1
section
variable [Tab] [Zok] {X : Cx}
theorem cs_repr (hg : X.A.guards = some []) (hu : X.A.units + 64 < cLine) : CallS X (.builtin "repr") (on1 dRepr) := by
  refine ⟨_, cr_repr hg hu, sv1 ?_⟩
  intro W Z F ρ σ H H0 x d rv Q S hd tx hf k
  unfold dRepr at hf
  split at hf
  · rename_i ok
    cases hf
    exact ⟨x, d, rfl, Top.dp tx (repOk_all (rpOk_of ok).1).1, ok, k.dat S (.str _)⟩
  · cases hf
end
end PD

namespace PD
open PySem PySem.Spec PyProof.Rows L2
/-! ### defs that want no repr under way around them -/
structure FnG (P : Program) (w : World) (K : PySem.W.Frag) (mg : Str → Option Value) (base : Heap) (k : Nat) (f : Addr) (fd : FuncData) (ps : List Str) (sp : Sp) : Prop where
  len : ∀ vs H Q E, sp vs H Q E → vs.length = ps.length
  run : ∀ (A : Around) (outer : List PySem.Env) (s : Shared) (H : Hp) (args : Args) (us : List Value) (vs : List V) (Q : VK) (E : XK), Room k A → A.guards = some [] → Env0 P w K mg base A outer s H → BindsTo s fd args (ps.zip us) → Vals vs us → sp vs H Q E →
    codeAny (model P w) A (.call (.ref f) args) (CR (L2.CX P w) outer P w H s Q E) s
section
variable {P : Program} {w : World} {K : PySem.W.Frag} {mg : Str → Option Value} {base : Heap} {j k : Nat} {f : Addr} {fd : FuncData} {ps : List Str} {sp : Sp}
theorem FnG.mono (F : FnG P w K mg base j f fd ps sp) (h : j ≤ k) : FnG P w K mg base k f fd ps sp :=
  ⟨F.len, fun A outer s H args us vs Q E hr => F.run A outer s H args us vs Q E (hr.mono h)⟩
theorem FnG.of (F : FnOk P w K mg base (L2.CX P w) k f fd ps sp) : FnG P w K mg base k f fd ps sp :=
  ⟨F.len, fun A outer s H args us vs Q E hr _ => F.run A outer s H args us vs Q E hr⟩
/-- a def by its body -/
theorem fnG_of {x qual : Str} {st : Stmt} {N : List Str} {c : Value} (Fn : Fun K x qual st f fd) (Sc : FnScope N ps (defScope st)) (len : ∀ vs H Q E, sp vs H Q E → vs.length = ps.length) (hcv : ∀ (oc : Value) (od : Option Addr) (kV doc pm : Value) (an : Option Addr) (cdv ct : Value) (osl : Array (Option Value)), fd = PySem.W.fnOf x qual (defArgs st) (defBody st) (defScope st) .none kV doc pm an cdv ct → K.lookup f = some ⟨oc, od, .func fd, osl⟩ → PySem.W.codeIn K cdv qual = true →
      ∀ (A : Around) (outer : List PySem.Env) (s : Shared) (H : Hp) (vs : List V) (Q : VK) (E : XK), Room k (A.deeper (envOfC qual (defScope st) s.heap.objs.size f cdv)) → A.guards = some [] → sp vs H Q E →
        ∃ t, PSs (cxOf (L2.CX P w) P w K mg base N qual (defScope st) f cdv A outer s H E) (defBody st) t ∧ t { nx := fun _ H' => Q .non H', rt := Q } (start N vs) H) : FnG P w K mg base (k + 1) f fd ps sp := by
  obtain ⟨oc, od, kV, doc, pm, an, cdv, ct, osl, hfd, lk, hcd⟩ := Fn.ex
  have body := hcv oc od kV doc pm an cdv ct osl hfd lk hcd
  subst hfd
  refine ⟨len, fun A outer s H args us vs Q E hr hgd e0 hb r hsp => ?_⟩
  have hl := len _ _ _ _ hsp
  have grow : ∀ b o, base.get? b = some o → s.heap.get? b = some o := fun b o e => (e0.bs b o e).1
  have KX : K.In s.heap := e0.mod.kin.keeps grow
  have slot : ∀ y ∈ ps.zip us, (defScope st).names.lookup y.1 = some .local ∨ ((defScope st).names.lookup y.1 = some .cell ∧ ((cellsFrom (s.heap.objs.size + 1) (defScope st).names []).lookup y.1).isSome = true) := by
    rintro ⟨n, v⟩ hy
    cases Sc.par n (List.of_mem_zip hy).1 with
    | inl q => exact .inl q
    | inr q => exact .inr ⟨q, PySem.W.cellsFrom_some _ _ _ (.inl q)⟩
  refine codeAny_call_function hr.depth (KX _ _ lk) rfl Sc.co Sc.gen rfl (PySem.W.codeRec_of KX hcd) (hb _ _ _ _ ?_)
  refine wpAny_newFunctionEnv_cells Sc.kind slot fun env he s1 x => ?_
  subst he
  refine ⟨(e0.mod.nolimit.keeps grow).keeps x.toInCall.keep, codeAny_func ?_⟩
  obtain ⟨t, ht, hq⟩ := body A outer s H vs Q E (hr.deeper _) hgd hsp
  refine wpAny_mono (ht.run [] s1 (start N vs) H _ (inv_start Sc hr.hd e0 hl r x) hq) (fun fl s' hs => ?_) fun e s' hs => hs
  cases fl with
  | ret u => obtain ⟨v, σ', H', J, rv, q⟩ := hs; exact ⟨v, H', J.os, J.bare, J.base, J.hok, rv, q⟩
  | next => obtain ⟨σ', H', J, q⟩ := hs; exact ⟨V.non, H', J.os, J.bare, J.base, J.hok, rfl, q⟩
  | brk => obtain ⟨_, _, _, q⟩ := hs; exact q.elim
  | cont => obtain ⟨_, _, _, q⟩ := hs; exact q.elim
end
theorem okG_def [Tab] {K : PySem.W.Frag} {mg : Str → Option Value} {P : Program} {w : World} {base : Heap} {x qual : Str} {st : Stmt} {f : Addr} {fd : FuncData} {N ps : List Str} {k : Nat} {m : MS} (Fn : Fun K x qual st f fd) (Sc : FnScope N ps (defScope st)) (hps : ps.length ≤ N.length)
    (hbody : ∀ (cdv : Value) (A : Around) (outer : List PySem.Env) (s : Shared) (H : Hp) (E : XK), Room k (A.deeper (envOfC qual (defScope st) s.heap.objs.size f cdv)) → (A.deeper (envOfC qual (defScope st) s.heap.objs.size f cdv)).guards = some [] →
      Takes (cxOf (L2.CX P w) P w K mg base N qual (defScope st) f cdv A outer s H E) (fun cls d _ H => E cls d H) →
      QB (cxOf (L2.CX P w) P w K mg base N qual (defScope st) f cdv A outer s H E) (fun cls d _ H => E cls d H) (defBody st) m) : FnG P w K mg base (k + 1) f fd ps (SpD K mg ps.length (fn N.length m)) := by
  refine fnG_of (c := .none) Fn Sc (fun vs H Q E h => h.1) fun oc od kV doc pm an cdv ct osl _ _ _ A outer s H vs Q E hr hgd h => ?_
  obtain ⟨hl, F0, as, Ar, al, hq⟩ := h
  refine ⟨_, hbody cdv A outer s H E hr hgd (takes_of rfl rfl rfl rfl), zone H F0 vs as, F0, entry N.length as, start_ok Ar al (by omega) trivial, ?_⟩
  exact body_end rfl rfl Ar (by rw [← Ar.len]; omega) hq
theorem okG_defC [Tab] {K : PySem.W.Frag} {mg : Str → Option Value} {P : Program} {w : World} {base : Heap} {x : Str} {st : Stmt} {f c : Addr} {fd : FuncData} {N ps : List Str} {k : Nat} {m : MS} (Fn : FunC K x st f fd c) (Sc : FnScope N ps (defScope st)) (hps : ps.length ≤ N.length)
    (hbody : ∀ (A : Around) (outer : List PySem.Env) (s : Shared) (H : Hp) (E : XK), Room k (A.deeper (envOfC x (defScope st) s.heap.objs.size f (.ref c))) → (A.deeper (envOfC x (defScope st) s.heap.objs.size f (.ref c))).guards = some [] →
      Takes (cxOf (L2.CX P w) P w K mg base N x (defScope st) f (.ref c) A outer s H E) (fun cls d _ H => E cls d H) →
      QB (cxOf (L2.CX P w) P w K mg base N x (defScope st) f (.ref c) A outer s H E) (fun cls d _ H => E cls d H) (defBody st) m) : FnG P w K mg base (k + 1) f fd ps (SpD K mg ps.length (fn N.length m)) := by
  refine fnG_of (c := .ref c) Fn.toFun Sc (fun vs H Q E h => h.1) fun oc od kV doc pm an cdv ct osl hfd _ _ A outer s H vs Q E hr hgd h => ?_
  obtain ⟨oc', od', kV', doc', pm', an', ct', osl', hfd', _, _⟩ := Fn.ex
  have e : cdv = .ref c := by
    have z := hfd.symm.trans hfd'
    simp only [PySem.W.fnOf, FuncData.mk.injEq] at z
    simp_all
  subst e
  obtain ⟨hl, F0, as, Ar, al, hq⟩ := h
  refine ⟨_, hbody A outer s H E hr hgd (takes_of rfl rfl rfl rfl), zone H F0 vs as, F0, entry N.length as, start_ok Ar al (by omega) trivial, ?_⟩
  exact body_end rfl rfl Ar (by rw [← Ar.len]; omega) hq
/-! ### by name -/
structure DefG [Tab] (P : Program) (w : World) (K : PySem.W.Frag) (mg : Str → Option Value) (base : Heap) (k : Nat) (x : Str) (ps : List Str) (g : FS) : Prop where
  ex : ∃ (f : Addr) (fd : FuncData), FnG P w K mg base k f fd ps (SpD K mg ps.length g) ∧ mg x = some (.ref f) ∧ PySem.W.keepIn K (.ref f) = true ∧ Binds K fd ps []
theorem defG [Tab] {K : PySem.W.Frag} {mg : Str → Option Value} {P : Program} {w : World} {base : Heap} {x : Str} {st : Stmt} {f : Addr} {fd : FuncData} {N ps : List Str} {k : Nat} {m : MS} (Fn : Fun K x x st f fd) (hm : mg x = some (.ref f)) (hb : Binds K fd ps []) (Sc : FnScope N ps (defScope st)) (hps : ps.length ≤ N.length)
    (hbody : ∀ (cdv : Value) (A : Around) (outer : List PySem.Env) (s : Shared) (H : Hp) (E : XK), Room k (A.deeper (envOfC x (defScope st) s.heap.objs.size f cdv)) → (A.deeper (envOfC x (defScope st) s.heap.objs.size f cdv)).guards = some [] →
      Takes (cxOf (L2.CX P w) P w K mg base N x (defScope st) f cdv A outer s H E) (fun cls d _ H => E cls d H) →
      QB (cxOf (L2.CX P w) P w K mg base N x (defScope st) f cdv A outer s H E) (fun cls d _ H => E cls d H) (defBody st) m) : DefG P w K mg base (k + 1) x ps (fn N.length m) :=
  ⟨f, fd, okG_def Fn Sc hps hbody, hm, Fn.kp, hb⟩
theorem defCG [Tab] {K : PySem.W.Frag} {mg : Str → Option Value} {P : Program} {w : World} {base : Heap} {x : Str} {st : Stmt} {f c : Addr} {fd : FuncData} {N ps : List Str} {k : Nat} {m : MS} (Fn : FunC K x st f fd c) (hm : mg x = some (.ref f)) (hb : Binds K fd ps []) (Sc : FnScope N ps (defScope st)) (hps : ps.length ≤ N.length)
    (hbody : ∀ (A : Around) (outer : List PySem.Env) (s : Shared) (H : Hp) (E : XK), Room k (A.deeper (envOfC x (defScope st) s.heap.objs.size f (.ref c))) → (A.deeper (envOfC x (defScope st) s.heap.objs.size f (.ref c))).guards = some [] →
      Takes (cxOf (L2.CX P w) P w K mg base N x (defScope st) f (.ref c) A outer s H E) (fun cls d _ H => E cls d H) →
      QB (cxOf (L2.CX P w) P w K mg base N x (defScope st) f (.ref c) A outer s H E) (fun cls d _ H => E cls d H) (defBody st) m) : DefG P w K mg base (k + 1) x ps (fn N.length m) :=
  ⟨f, fd, okG_defC Fn Sc hps hbody, hm, Fn.kp, hb⟩
section
variable [Tab] [Zok] {X : Cx} {W : WX}
theorem q_callG {x : Str} {ps : List Str} {k j n : Nat} {g : FS} {p pos : Pos} {e : Expr} {es : List Expr} {m : MEs} (Df : DefG X.prog X.w X.K X.mg X.base k x ps g) (hgd : X.A.guards = some []) (hr : Room j X.A) (hkj : k ≤ j) (hg : Gl X x) (tk : Takes X W) (ha : QA X W (e :: es) m) (hn : ps.length = n := by rfl)
    (hdb : (x == ("__debug__" : Str)) = false := by decide) (he : starEach (e :: es) X.env = (false, eval e X.env) :: starEach es X.env := by rfl) (hpl : (backTo pos (starEach es X.env)).any (·.1) = false := by rfl) :
    QE X W (.Call (.Name x p) (e :: es) [] pos) (mCall n g m) := by
  obtain ⟨f, fd, F1, hm, hk, hb⟩ := Df.ex
  subst hn
  refine q_call_of ⟨fun pins s σ H Q I h => ?_⟩
  refine wpAny_Call_Name_kw (ld_glob I hg hm ?_ hdb)
  refine PySem.W.callWith_K (h₀ := X.base) I.ok.mod.kin hk (thn (ha.run pos pins s σ H _ I h) fun us s1 ⟨vs, H1, I1, r, q⟩ => ⟨I1.kIn, ?_⟩) he hpl
  have hl : us.length = ps.length := by rw [← r.length]; exact F1.len _ _ _ _ q
  have b := hb s1 us I1.kIn (by rw [List.append_nil]; exact hl)
  rw [List.append_nil] at b
  refine wpAny_call (codeAny_mono (F1.run X.A X.stack s1 H1 ⟨us, []⟩ us vs Q (WE W σ) (hr.mono hkj) hgd I1.env0 b r q) fun r s' hq => ?_)
  cases r with
  | error e => exact passAt tk σ pins H1 s1 e s' I1 hq
  | ok fl =>
    cases fl with
    | ret u => exact I1.after hq
    | next => exact hq.elim
    | brk => exact hq.elim
    | cont => exact hq.elim
end
end PD

namespace PD
open PySem PySem.Spec PyProof.Rows L2
/-! ### the law's call, from the state in which it stands -/
/-- the tables, and the script if the written part does not know it -/
def startHp (K : PySem.W.Frag) (ts : List Addr) (a : Addr) (o : Obj) (ns : List Int) : Hp := fun b =>
  if b ∈ ts then some (.tbl #[]) else if b = a ∧ (K.lookup a).isNone = true then some (.frz o (.lst (ns.map V.int))) else none
theorem startHp_some {K : PySem.W.Frag} {ts : List Addr} {a b : Addr} {o : Obj} {ns : List Int} {u : HO} (h : startHp K ts a o ns b = some u) :
    (b ∈ ts ∧ u = .tbl #[]) ∨ (b = a ∧ K.lookup a = none ∧ u = .frz o (.lst (ns.map V.int))) := by
  unfold startHp at h
  split at h
  · rename_i q; cases h; exact .inl ⟨q, rfl⟩
  · split at h
    · rename_i q; cases h; exact .inr ⟨q.1, by simpa using q.2, rfl⟩
    · cases h
/-- a state's facts that the law's call wants -/
structure Stand (K : PySem.W.Frag) (mg mb : Str → Option Value) (s : Shared) (cs : List (Addr × Addr)) (a : Addr) (vs : List Value) (ns : List Int) : Prop where
  kin : K.In s.heap
  glob : s.heap.Ns mainGlobals mg
  blt : s.heap.Ns builtinsNs mb
  boot : ∀ x : Str, x ≠ "__name__" → mb x = bootBuiltins x
  nolimit : s.heap.NoLimit
  gens : s.gens = #[]
  tab : ∀ p ∈ cs, s.heap.get? p.2 = some { cls := .none, data := .fields #[] }
  tabK : ∀ p ∈ cs, K.lookup p.2 = none
  code : ∀ p ∈ cs, PySem.W.CodeHd s.heap p.1 p.2
  bmod : ∃ (bm : Addr) (ob : Obj), mg "__builtins__" = some (.ref bm) ∧ bm ≠ builtinsNs ∧ s.heap.get? bm = some ob ∧ ob.cls = .type "module" ∧ ob.dict = some builtinsNs ∧ ob.data = .plain
  obj : s.heap.get? a = some { cls := .type "list", data := .seq vs.toArray }
  nums : IntsAre vs ns
  short : ns.length ≤ sizeLine
section
variable {K : PySem.W.Frag} {mg mb : Str → Option Value} {s : Shared} {cs : List (Addr × Addr)} {a : Addr} {vs : List Value} {ns : List Int}
abbrev scriptObj (vs : List Value) : Obj := { cls := .type "list", data := .seq vs.toArray }
abbrev standHp (K : PySem.W.Frag) (cs : List (Addr × Addr)) (a : Addr) (vs : List Value) (ns : List Int) : Hp := startHp K (cs.map (·.2)) a (scriptObj vs) ns
theorem Stand.tabAt (S : Stand K mg mb s cs a vs ns) {b : Addr} (h : b ∈ cs.map (·.2)) : s.heap.get? b = some { cls := .none, data := .fields #[] } ∧ K.lookup b = none := by
  obtain ⟨p, hp, rfl⟩ := List.mem_map.mp h
  exact ⟨S.tab p hp, S.tabK p hp⟩
theorem Stand.notTab (S : Stand K mg mb s cs a vs ns) : a ∉ cs.map (·.2) := fun h => by
  have z := (S.tabAt h).1
  rw [S.obj] at z
  exact absurd (congrArg Obj.cls (Option.some.inj z)) (by intro q; cases q)
/-- what is neither a list nor a bare table is not tracked -/
theorem Stand.free (S : Stand K mg mb s cs a vs ns) {b : Addr} {o : Obj} (e : s.heap.get? b = some o) (h1 : o.cls ≠ .type "list") (h2 : o.data ≠ .fields #[]) : standHp K cs a vs ns b = none := by
  cases q : standHp K cs a vs ns b with
  | none => rfl
  | some u =>
    rcases startHp_some q with ⟨m, _⟩ | ⟨rfl, _, _⟩
    · rw [(S.tabAt m).1] at e
      cases e
      exact absurd rfl h2
    · rw [S.obj] at e
      cases e
      exact absurd rfl h1
theorem Stand.freeD (S : Stand K mg mb s cs a vs ns) {b : Addr} {o : Obj} (e : s.heap.get? b = some o) (h1 : ∀ us n, o.data ≠ .seq us n) (h2 : o.data ≠ .fields #[]) : standHp K cs a vs ns b = none := by
  cases q : standHp K cs a vs ns b with
  | none => rfl
  | some u =>
    rcases startHp_some q with ⟨m, _⟩ | ⟨rfl, _, _⟩
    · rw [(S.tabAt m).1] at e
      cases e
      exact absurd rfl h2
    · rw [S.obj] at e
      cases e
      exact absurd rfl (h1 _ _)
theorem Stand.nsH (S : Stand K mg mb s cs a vs ns) {b : Addr} {m : Str → Option Value} (h : s.heap.Ns b m) : (hidT s.heap (standHp K cs a vs ns)).Ns b m := by
  obtain ⟨o, es, ep, e, d, r⟩ := h
  exact ⟨o, es, ep, hidT_get e (S.freeD e (fun _ _ z => by rw [d] at z; cases z) (fun z => by rw [d] at z; cases z)), d, r⟩
theorem Stand.kin' (S : Stand K mg mb s cs a vs ns) : K.In (hidT s.heap (standHp K cs a vs ns)) := fun b o e => by
  refine hidT_get (S.kin b o e) ?_
  cases q : standHp K cs a vs ns b with
  | none => rfl
  | some u =>
    rcases startHp_some q with ⟨m, _⟩ | ⟨rfl, n, _⟩
    · rw [(S.tabAt m).2] at e; cases e
    · rw [n] at e; cases e
theorem Stand.hok (S : Stand K mg mb s cs a vs ns) {P : Program} {w : World} : HOk P w (standHp K cs a vs ns) s.heap := fun b u e => by
  rcases startHp_some e with ⟨m, rfl⟩ | ⟨rfl, _, rfl⟩
  · exact (S.tabAt m).1
  · exact ⟨S.obj, by rw [List.length_map]; exact S.short, vs, _, vals_ints S.nums, S.obj⟩
theorem Stand.tabB (S : Stand K mg mb s cs a vs ns) : ∀ p ∈ cs, LamX.TabB (hidT s.heap (standHp K cs a vs ns)) mg p.1 p.2 := fun p hp => by
  refine ⟨?_, ?_, fun z => ?_⟩
  · obtain ⟨o, us, file, tf, flags, tg, inF, text, tt, e1, r1, r2, r3, r⟩ := S.code p hp
    refine ⟨o, us, file, tf, flags, tg, inF, text, tt, hidT_get e1 (S.freeD e1 (fun _ _ z => by rw [r2] at z; cases z) fun z => ?_), r1, r2, r3, r⟩
    rw [r2] at z
    cases z
    simp at r3
  · obtain ⟨bm, ob, b1, b2, b3, b4, b5, b6⟩ := S.bmod
    refine ⟨bm, ob, b1, b2, fun q => ?_, fun q => ?_, hidT_get b3 (S.freeD b3 (fun _ _ z => by rw [b6] at z; cases z) fun z => by rw [b6] at z; cases z), b4, b5, b6⟩
    · obtain ⟨o, es, ep, e, hd, _⟩ := S.glob
      rw [q, e] at b3
      cases b3
      rw [hd] at b6
      cases b6
    · rw [q, S.tab p hp] at b3
      cases b3
      cases b6
  · obtain ⟨o, es, ep, e, hd, _⟩ := S.glob
    rw [z, S.tab p hp] at e
    cases e
    cases hd
theorem Stand.env (S : Stand K mg mb s cs a vs ns) {P : Program} {w : World} : Env0 P w K mg (hidT s.heap (standHp K cs a vs ns)) callerA [] s (standHp K cs a vs ns) := by
  refine ⟨rfl, ⟨S.kin', S.nsH S.glob, ⟨mb, S.nsH S.blt, S.boot⟩, ?_⟩, fun b o e => of_hidT e, Nat.le_of_eq (hidT_size _ _), trivial, fun b hb => absurd (show b ∈ ([] : List Addr) from hb) (by simp), S.hok, .of_eq S.gens⟩
  obtain ⟨mc, h1, h2⟩ := S.nolimit
  exact ⟨mc, S.nsH h1, h2⟩
theorem Stand.script (S : Stand K mg mb s cs a vs ns) : SqL K (standHp K cs a vs ns) a (ns.map V.int) := by
  cases hk : K.lookup a with
  | some o =>
    have e := S.kin a o hk
    rw [S.obj] at e
    cases e
    exact .inr ⟨_, vs.toArray, _, hk, rfl, rfl, rfl, by rw [List.size_toArray, S.nums.length]; exact S.short, by simpa using vals_ints S.nums⟩
  | none =>
    refine .inl (.inr ⟨scriptObj vs, ?_⟩)
    show startHp K (cs.map (·.2)) a (scriptObj vs) ns a = _
    unfold startHp
    rw [if_neg S.notTab, if_pos ⟨rfl, by rw [hk]; rfl⟩]
theorem Stand.tabH {p : Addr × Addr} (hp : p ∈ cs) : standHp K cs a vs ns p.2 = some (.tbl #[]) := by
  show startHp K (cs.map (·.2)) a (scriptObj vs) ns p.2 = _
  unfold startHp
  rw [if_pos (List.mem_map.mpr ⟨p, hp, rfl⟩)]
theorem Stand.ends (S : Stand K mg mb s cs a vs ns) {P : Program} {w : World} {u : Value} {s' : Shared} (h : CE [] P w (standHp K cs a vs ns) s (fun v _ => v = .bl true) u s') : u = .bool true ∧ OldK s.heap s'.heap ∧ s'.os = s.os ∧ AllBare s'.gens := by
  obtain ⟨v, H', os, bare, un, hok', r, q⟩ := h
  subst q
  obtain rfl : u = Value.bool true := r
  have kept : ∀ b o, b ∉ cs.map (·.2) → s.heap.get? b = some o → s'.heap.get? b = some o := fun b o nb e => by
    cases q : standHp K cs a vs ns b with
    | none => exact un.keep b o e q (fun z => absurd (show b ∈ ([] : List Addr) from z) (by simp)) (by simp)
    | some u =>
      rcases startHp_some q with ⟨m, _⟩ | ⟨rfl, _, rfl⟩
      · exact absurd m nb
      · rw [S.obj] at e
        cases e
        exact (hok' _ _ (un.frzs _ _ _ q)).1
  refine ⟨rfl, ⟨fun b o e => ?_, fun b o e => un.there b o e (by simp)⟩, os, bare⟩
  by_cases hb : b ∈ cs.map (·.2)
  · obtain ⟨p, hp, rfl⟩ := List.mem_map.mp hb
    obtain ⟨more, z⟩ := un.tbls p.2 #[] (Stand.tabH hp)
    rw [S.tab p hp] at e
    cases e
    exact .inr (.inl ⟨((S.code p hp).tab (S.tab p hp)).isCodeTable, rfl, #[], more, rfl, hok' _ _ z⟩)
  · exact .inl (kept b o hb e)
end
/-- what is known of the law at the head's heap h -/
def LawG (l : PySem.W.OpenLaw) (w : World) (K : PySem.W.Frag) (k n : Nat) (mg : Str → Option Value) (fa : Addr) (h : Heap) : Prop :=
  ∃ (fd : FuncData) (cs : List (Addr × Addr)) (sp : Sp), (∀ p ∈ cs, h.get? p.2 = some { cls := .none, data := .fields #[] }) ∧ (∀ p ∈ cs, K.lookup p.2 = none) ∧ (∀ p ∈ cs, PySem.W.CodeHd h p.1 p.2) ∧ (∀ (s : Shared) (u : Value), BindsTo s fd ⟨[u], []⟩ [("script", u)]) ∧
    (∀ (H : Hp) (a : Addr) (ns : List Int), ns.length ≤ n → (∀ z ∈ ns, Builtin.Int.intBits z ≤ 1048576) → (∀ p ∈ cs, H p.2 = some (.tbl #[])) → SqL K H a (ns.map V.int) → sp [.ref a] H (fun v _ => v = .bl true) fun _ _ _ => False) ∧
    ∀ base : Heap, K.In base → base.Ns mainGlobals mg → (∀ p ∈ cs, LamX.TabB base mg p.1 p.2) → FnG l.prog w K mg base k fa fd ["script"] sp
theorem walk_lawG {l : PySem.W.OpenLaw} {n k : Nat} {q : Program} {loose : List Str} {XP : (Str → Option Value) → Heap → Prop} {YP : World → Heap → Prop} {d : DefRec} {K : Params → PySem.W.Frag}
    (hn : l.most = some n) (hn2 : n ≤ sizeLine) (hdf : d.params.defaults = []) (hr : Room k callerA) (hY : ∀ (w : World) (h : Heap), YP w h → (K w.params).In h)
    (F : ∀ (w : World) (mg : Str → Option Value) (fa : Addr) (h : Heap), YP w h → (K w.params).In h → h.Ns mainGlobals mg → XP mg h → mg d.name = some (.ref fa) → LawG l w (K w.params) k n mg fa h) :
    PySem.W.WalkO q loose XP YP l.row.toRowW d [] (fun f vs => PySem.call f vs) := by
  refine Att.attach_callB hn hdf fun w s₀ s₁ mg mb fa o pm cd doc a vs ns G Y ho hd hcd hmg hobj hints hlen hbits hg => ?_
  have KX := hY w _ Y
  obtain ⟨fd, cs, sp, t1, t2, t3, t4, t5, t6⟩ := F w mg fa _ Y KX G.T.g G.X hmg
  have S : Stand (K w.params) mg mb s₁ cs a vs ns := ⟨KX, G.T.g, G.T.b, G.T.builtins, G.T.nolimit, hg, t1, t2, t3, G.T.bmain, hobj, hints, Nat.le_trans hlen hn2⟩
  refine codeAny_mono ((t6 _ S.kin' (S.nsH S.glob) S.tabB).run callerA [] s₁ _ ⟨[.ref a], []⟩ [.ref a] [.ref a] _ _ hr rfl S.env (t4 s₁ (.ref a)) (.cons rfl .nil) (t5 _ a ns hlen hbits (fun p hp => Stand.tabH hp) S.script)) fun r s' h => ?_
  cases r with
  | error e => exact (never h).elim
  | ok fl =>
    cases fl with
    | ret u =>
      obtain ⟨rfl, h2⟩ := S.ends h
      exact ⟨rfl, h2⟩
    | next => exact h.elim
    | brk => exact h.elim
    | cont => exact h.elim
end PD

namespace PD
open PySem PySem.Spec PyProof.Rows L2
/-! ### isinstance(a, (T, U)) -/
section
variable [Tab] [Zok] {X : Cx} {W : WX}
theorem q_isi2 {T U : String} {f g : D → Bool} {x : Str} {p pos p2 p3 p4 : Pos} {e : Expr} {m : ME} {tn un : Str} {cx} (h : IsiT T f) (h' : IsiT U g) (hg : Gl X x) (hm : X.mg x = none) (hv : bootBuiltins x = some (.builtin "isinstance")) (ha : QE X W e m)
    (hgT : Gl X tn) (hmT : X.mg tn = none) (hvT : bootBuiltins tn = some (.type T)) (hgU : Gl X un) (hmU : X.mg un = none) (hvU : bootBuiltins un = some (.type U))
    (hnT : tn ≠ "__name__" := by decide) (hdT : (tn == ("__debug__" : Str)) = false := by decide) (hnU : un ≠ "__name__" := by decide) (hdU : (un == ("__debug__" : Str)) = false := by decide)
    (hn : x ≠ "__name__" := by decide) (hdb : (x == ("__debug__" : Str)) = false := by decide)
    (ht1 : starEach [.Name tn p2, .Name un p3] X.env = (false, eval (.Name tn p2) X.env) :: starEach [.Name un p3] X.env := by rfl)
    (ht2 : starEach [.Name un p3] X.env = (false, eval (.Name un p3) X.env) :: starEach [] X.env := by rfl)
    (hs1 : starEach [e, .Tuple [.Name tn p2, .Name un p3] cx p4] X.env = (false, eval e X.env) :: starEach [.Tuple [.Name tn p2, .Name un p3] cx p4] X.env := by rfl)
    (hs2 : starEach [.Tuple [.Name tn p2, .Name un p3] cx p4] X.env = (false, eval (.Tuple [.Name tn p2, .Name un p3] cx p4) X.env) :: starEach [] X.env := by rfl) (hpl : (backTo pos (starEach [.Tuple [.Name tn p2, .Name un p3] cx p4] X.env)).any (·.1) = false := by rfl) :
    QE X W (.Call (.Name x p) [e, .Tuple [.Name tn p2, .Name un p3] cx p4] [] pos) (mIsi m fun d => f d || g d) := by
  have hT : PE X (.Name tn p2) (tC (.ty T)) := pe_bltn hgT hmT hvT rfl hnT hdT
  have hU : PE X (.Name un p3) (tC (.ty U)) := pe_bltn hgU hmU hvU rfl hnU hdU
  have hP : PE X (.Tuple [.Name tn p2, .Name un p3] cx p4) _ := pe_tup (pa_cons hT (pa_cons hU pa_nil ht2) ht1)
  refine PE.of (pe_callB call_isiT hg hm hv (pa_cons ha (pa_cons hP pa_nil hs2) hs1) hn hdb hs1 hpl) fun σ H Q hq => ?_
  obtain ⟨Z, F, ρ, S, k⟩ := hq
  refine ⟨Z, F, ρ, S, Post.bind k fun x ρ1 H1 F1 e1 S1 st1 k1 v1 vo1 nw1 => ?_⟩
  cases g1 : x.get ρ1 with
  | none => rw [g1] at k1; exact k1.elim
  | some d =>
    rw [g1] at k1
    refine ⟨by rw [line_eq]; show (2 : Nat) ≤ LINE; decide, fun q nq => ?_⟩
    obtain ⟨S2, st2⟩ := S1.new (o := .tup [.ty T, .ty U]) nq
    refine ⟨v1, q, _, _, _, _, rfl, upd_same, .cons (.ty T) (.cons (.ty U) .nil), ((vo1.step st2).top S2 g1).ty, ?_, (Post.later (o := Out.ok (RV.dat (.bool (f d || g d))) ρ1) k1 st2).dat S2 (.bl _)⟩
    refine kitAny_cons (h.rule X.K d) (fun e => ?_) (fun e => by rw [e]; rfl)
    refine kitAny_cons (h'.rule X.K d) (fun e' => ?_) (fun e' => by rw [e']; simp)
    rw [e, e']
    exact kitAny_nil
end
end PD

namespace PD
open PySem PySem.Spec PyProof.Rows L2
/-! ### range up, by a step -/
def stepN (i j c : Int) : Nat := if i < j then ((j - i - 1) / c + 1).toNat else 0
def rangeC (i j c : Int) : List D := (List.range (stepN i j c)).map fun (k : Nat) => .int (i + (k : Nat) * c)
def iRangeC (a : MEs) : MI := fun ρ => (a ρ).bind fun rs ρ1 => match rs with
  | [.dat (.int i), .dat (.int j), .dat (.int c)] => if rOk i && rOk j && decide (0 < c) && decide (c < 1073741824) then .ok (rangeC i j c) ρ1 else .no
  | _ => .no
theorem stepN_eq {i j c : Int} (h : 0 < c) : Builtin.Range.rangeSize i j c = (stepN i j c : Int) := by
  unfold Builtin.Range.rangeSize stepN
  rw [if_pos h]
  split
  · have := Int.ediv_nonneg (show 0 ≤ j - i - 1 by omega) (Int.le_of_lt h)
    omega
  · rfl
theorem stepN_le {i j c : Int} (h : 0 < c) : (stepN i j c : Int) ≤ max 0 (j - i) := by
  unfold stepN
  split
  · have h1 := Int.ediv_nonneg (show 0 ≤ j - i - 1 by omega) (Int.le_of_lt h)
    have h2 := Int.ediv_le_self c (show 0 ≤ j - i - 1 by omega)
    omega
  · omega
theorem rgC_up {i j c : Int} (ha : -(2 ^ 62) ≤ i) (ha' : i < 2 ^ 62) (hb : -(2 ^ 62) ≤ j) (hb' : j < 2 ^ 62) (h : 0 < c) (h' : c < 1073741824) : RgC i j c (stepN i j c) := by
  refine ⟨by omega, by omega, ?_, stepN_eq h⟩
  unfold Builtin.Range.small
  rw [stepN_eq h]
  have := stepN_le (i := i) (j := j) h
  simp only [Builtin.Range.rangeFitsLong, Bool.and_eq_true, Bool.or_eq_true, decide_eq_true_eq, beq_iff_eq]
  rw [if_pos h]
  simp only [Bool.and_eq_true, decide_eq_true_eq]
  omega
section
variable [Tab] [Zok] {X : Cx} {W : WX} {K : PySem.W.Frag} {F F1 : Forb} {H H1 : Hp} {v : V}
omit [Zok] in
theorem iter_rangeC (a b c : Int) : IterOk K F H (Itc a c (stepN a b c)) (rangeC a b c) where
  go := fun F1 H1 _ i hi => by
    have h : i < stepN a b c := by simpa [rangeC] using hi
    exact h
  stop := fun F1 H1 cc => by
    have h : (rangeC a b c).length = stepN a b c := by simp [rangeC]
    rw [h]
    exact Nat.le_refl _
  yld := fun F1 H1 cc _ i x H2 hi y => by
    obtain ⟨e, y⟩ := y
    subst y
    refine ⟨.inl e, .int (a + (i : Nat) * c), ?_, .int _⟩
    have hi' : i < stepN a b c := by simpa [rangeC] using hi
    simp [rangeC, hi']
theorem qi_rangeC {tg a b c : Expr} {m : MEs} {p pos : Pos} (hg : Gl X "range") (hm : X.mg "range" = none) (ha : QA X W [a, b, c] m)
    (hs : starEach [a, b, c] X.env = (false, eval a X.env) :: starEach [b, c] X.env := by rfl) (hpl : (backTo pos (starEach [b, c] X.env)).any (·.1) = false := by rfl) :
    QI X W tg (.Call (.Name "range" p) [a, b, c] [] pos) (iRangeC m) := by
  refine PI.of (pi_range3 hg hm ha hs hpl) fun σ H R hq => ?_
  obtain ⟨Z, F, ρ, S, k⟩ := hq
  refine ⟨Z, F, ρ, S, Post.bind k fun rs ρ1 H1 F1 e1 S1 st1 k1 vs vo nw => ?_⟩
  split at k1
  · rename_i i j c
    split at k1
    · rename_i hj
      have e := ints3 vo
      rw [Bool.and_eq_true, Bool.and_eq_true, Bool.and_eq_true, decide_eq_true_eq, decide_eq_true_eq] at hj
      obtain ⟨⟨⟨hj1, hj2⟩, h5⟩, h6⟩ := hj
      obtain ⟨h1, h2⟩ := rOk_of hj1
      obtain ⟨h3, h4⟩ := rOk_of hj2
      exact ⟨i, j, c, stepN i j c, e, rgC_up h1 h2 h3 h4 h5 h6, k1 H1 F1 S1 .refl _ (iter_rangeC i j c)⟩
    · exact k1.elim
  · exact k1.elim
end
@[simp] theorem r_iRangeC (a : MEs) (ρ : Env) : iRangeC a ρ = (a ρ).bind fun rs ρ1 => match rs with
  | [.dat (.int i), .dat (.int j), .dat (.int c)] => if rOk i && rOk j && decide (0 < c) && decide (c < 1073741824) then .ok (rangeC i j c) ρ1 else .no
  | _ => .no := (rfl)
@[simp] theorem r_tTupL (ts : List MT) (ds : List D) (ρ : Env) : tTup ts (.list ds) ρ = tgts ts ds ρ := (rfl)
end PD

namespace PD
open PySem
/-! ### what laws share -/
@[simp] theorem r_mPopAt (i : Nat) (m : MEs) (ρ : Env) : mPopAt i m ρ = if (mutL ρ i).isSome then (m ρ).bind fun rs ρ1 => match mutL ρ1 i, rs with
    | some ds, [.dat (.int k)] => match L2.ixN ds.length k with
      | some j => match ds[j]? with
        | some d => .ok (.dat d) (putSlot ρ1 i (.list (ds.eraseIdx j)))
        | none => .no
      | none => .no
    | _, _ => .no
  else .no := (rfl)
theorem range_split {n : Nat} {pre post : List Nat} {i : Nat} (e : List.range n = pre ++ i :: post) : i = pre.length ∧ i < n ∧ pre = List.range i := by
  have h1 := congrArg (fun l => l[pre.length]?) e
  simp only [List.getElem?_append_right (Nat.le_refl _), Nat.sub_self, List.getElem?_cons_zero] at h1
  have hl := congrArg List.length e
  simp at hl
  rw [List.getElem?_range (by omega)] at h1
  have hi : i = pre.length := (Option.some.inj h1).symm
  refine ⟨hi, by omega, ?_⟩
  have h2 := congrArg (List.take pre.length) e
  simp at h2
  rw [← h2, hi, Nat.min_eq_left (by omega)]
theorem er_iff : ∀ (so : List Nat) (d : Nat) (h : d < so.length), so.Nodup → ∀ x, x ∈ so.eraseIdx d ↔ x ∈ so ∧ x ≠ so[d]
  | [], _, h, _, _ => by simp at h
  | c :: cs, 0, _, nd, x => by
    have hc := (List.nodup_cons.mp nd).1
    constructor
    · intro hx
      exact ⟨List.mem_cons_of_mem _ hx, fun e => hc (by rw [← show x = c from e]; exact hx)⟩
    · rintro ⟨hx, hn⟩
      rcases List.mem_cons.mp hx with e | hx
      · exact absurd e hn
      · exact hx
  | c :: cs, d + 1, h, nd, x => by
    have hc := List.nodup_cons.mp nd
    have hd : d < cs.length := by simpa using h
    have ih := er_iff cs d hd hc.2 x
    show x ∈ c :: cs.eraseIdx d ↔ x ∈ c :: cs ∧ x ≠ cs[d]
    rw [List.mem_cons, List.mem_cons, ih]
    constructor
    · rintro (rfl | ⟨h1, h2⟩)
      · exact ⟨.inl rfl, fun e => hc.1 (by rw [e]; exact List.getElem_mem _)⟩
      · exact ⟨.inr h1, h2⟩
    · rintro ⟨rfl | h1, h2⟩
      · exact .inl rfl
      · exact .inr ⟨h1, h2⟩
theorem map_er {α β : Type} (f : α → β) : ∀ (l : List α) (d : Nat), (l.map f).eraseIdx d = (l.eraseIdx d).map f
  | [], d => by simp
  | c :: cs, 0 => rfl
  | c :: cs, d + 1 => by
    show f c :: (cs.map f).eraseIdx d = _
    rw [map_er f cs d]
    rfl
theorem lc_all0 (c : ME) {m : MI} {vs : List Nat} {t : MT} {e : ME} (hc : c = mLc m vs t bYes e) {α : Type} (l : List α) (enc g : α → D) {ρ0 : Env} (ρ : Env) (hm : m ρ0 = .ok (l.map enc) ρ) (hp : noPar ρ vs = true) (hl : l.length ≤ LINE) (hb : backE ρ (wipeE ρ vs) vs = ρ)
    (h : ∀ a ∈ l, LcEl t bYes e vs (wipeE ρ vs) (enc a) true (g a)) : c ρ0 = .ok (.own (.list (l.map g))) ρ := by
  have q := lc_all (mLc (fun _ => .ok (l.map enc) ρ) vs t bYes e) rfl l enc g (ρ := ρ) rfl hp hl hb h
  rw [← q, hc]
  unfold mLc
  rw [hm]
theorem lc_at0 (c : ME) {m : MI} {vs : List Nat} {t : MT} {cd : MB} {e : ME} (hc : c = mLc m vs t cd e) {α : Type} (l : List α) (enc g : α → D) (p : α → Bool) {ρ0 : Env} (ρ : Env) (hm : m ρ0 = .ok (l.map enc) ρ) (hp : noPar ρ vs = true) (hl : l.length ≤ LINE) (hb : backE ρ (wipeE ρ vs) vs = ρ)
    (h : ∀ a ∈ l, LcEl t cd e vs (wipeE ρ vs) (enc a) (p a) (g a)) : c ρ0 = .ok (.own (.list ((l.filter p).map g))) ρ := by
  have q := lc_at (mLc (fun _ => .ok (l.map enc) ρ) vs t cd e) rfl l enc g p (ρ := ρ) rfl hp hl hb h
  rw [← q, hc]
  unfold mLc
  rw [hm]
theorem r_repr {d : D} (h : rpOk d = true) : dRepr d = some (.dat (.str d.shown)) := by unfold dRepr; rw [if_pos h]
@[simp] theorem eqv_ss (s : Str) : PyData.eqv (.str s) (.str s) = true := PySem.SeqAt.eqv_refl_plain (.str s) rfl
theorem dNe_ss (s : Str) : dNe (.str s) (.str s) = some (.dat (.bool false)) := dNe_same (n := 0) (Sm_str 0 s)
theorem dEq_ss (s : Str) : dEq (.str s) (.str s) = some (.dat (.bool true)) := dEq_same (n := 0) (Sm_str 0 s)
theorem dEq_str (a b : Str) : dEq (.str a) (.str b) = some (.dat (.bool (a == b))) := rfl
theorem dNe_str' (a b : Str) : dNe (.str a) (.str b) = some (.dat (.bool (!(a == b)))) := rfl
theorem tx0 (x : D) (t : List D) : dIx (.tuple (x :: t)) (.int 0) = some (.dat x) := dIx_t (n := 0) rfl rfl
theorem tx1 (w : D) (x : D) (t : List D) : dIx (.tuple (w :: x :: t)) (.int 1) = some (.dat x) := dIx_t (n := 1) rfl rfl
theorem tx2 (w x y : D) (t : List D) : dIx (.tuple (w :: x :: y :: t)) (.int 2) = some (.dat y) := dIx_t (n := 2) rfl rfl
theorem tx3 (w x y z : D) (t : List D) : dIx (.tuple (w :: x :: y :: z :: t)) (.int 3) = some (.dat z) := dIx_t (n := 3) rfl rfl
theorem tx4 (w x y z u : D) (t : List D) : dIx (.tuple (w :: x :: y :: z :: u :: t)) (.int 4) = some (.dat u) := dIx_t (n := 4) rfl rfl
theorem call0 {f : FS} {r : D} (h : Ev f [] r) (ρ : Env) : callK 0 f ρ [] = .ok (.dat r) ρ := callK_ev h ρ
theorem call0O {f : FS} {r : D} (h : EvO f [] r) (ρ : Env) : callK 0 f ρ [] = .ok (.own r) ρ := callK_evO h ρ
/-! the same small data: what a closed reckoning gives is looked at by the kernel -/
mutual
def sameD : D → D → Bool
  | .int a, .int b => decide (a = b)
  | .none, .none => true
  | .bool a, .bool b => decide (a = b)
  | .str a, .str b => decide (a = b)
  | .tuple a, .tuple b => sameL a b
  | .list a, .list b => sameL a b
  | _, _ => false
def sameL : List D → List D → Bool
  | [], [] => true
  | a :: as, b :: bs => sameD a b && sameL as bs
  | _, _ => false
end
mutual
theorem sameD_eq : ∀ {d e : D}, sameD d e = true → d = e
  | .int a, e, h => by cases e <;> simp_all [sameD]
  | .none, e, h => by cases e <;> simp_all [sameD]
  | .bool a, e, h => by cases e <;> simp_all [sameD]
  | .str a, e, h => by cases e <;> simp_all [sameD]
  | .tuple a, e, h => by
    cases e with
    | tuple b =>
      have q : sameL a b = true := by simpa only [sameD] using h
      rw [sameL_eq q]
    | _ => simp [sameD] at h
  | .list a, e, h => by
    cases e with
    | list b =>
      have q : sameL a b = true := by simpa only [sameD] using h
      rw [sameL_eq q]
    | _ => simp [sameD] at h
  | .dict a, e, h => by cases e <;> simp [sameD] at h
theorem sameL_eq : ∀ {d e : List D}, sameL d e = true → d = e
  | [], [], _ => rfl
  | [], _ :: _, h => by simp [sameL] at h
  | _ :: _, [], h => by simp [sameL] at h
  | a :: as, b :: bs, h => by
    simp only [sameL, Bool.and_eq_true] at h
    rw [sameD_eq h.1, sameL_eq h.2]
end
def gives (o : FO) (r : D) : Bool := match o with
  | .ok (.dat d) _ => sameD d r
  | _ => false
def givesO (o : FO) (r : D) : Bool := match o with
  | .ok (.own d) _ => sameD d r
  | _ => false
theorem gives_ev {f : FS} {ds : List D} {r : D} (h : gives (f (ds.map SV.dat)) r = true) : Ev f ds r := by
  unfold gives at h
  split at h
  · rename_i d outs e
    exact ⟨outs, by rw [e, sameD_eq h]⟩
  · cases h
theorem gives_evO {f : FS} {ds : List D} {r : D} (h : givesO (f (ds.map SV.dat)) r = true) : EvO f ds r := by
  unfold givesO at h
  split at h
  · rename_i d outs e
    exact ⟨outs, by rw [e, sameD_eq h]⟩
  · cases h
theorem mem_app {α : Type} {p : α → Prop} {a b : List α} (ha : ∀ x ∈ a, p x) (hb : ∀ x ∈ b, p x) : ∀ x ∈ a ++ b, p x := fun x hx => by
  rcases List.mem_append.mp hx with h | h
  · exact ha x h
  · exact hb x h
theorem mem_cns {α : Type} {p : α → Prop} {a : α} {b : List α} (ha : p a) (hb : ∀ x ∈ b, p x) : ∀ x ∈ a :: b, p x := fun x hx => by
  rcases List.mem_cons.mp hx with rfl | h
  · exact ha
  · exact hb x h
theorem mem_no {α : Type} {p : α → Prop} : ∀ x ∈ ([] : List α), p x := fun _ h => by simp at h
/-- a closed truth value, looked at by the kernel -/
def isBo (o : Option RV) (b : Bool) : Bool := match o with
  | some (.dat (.bool c)) => decide (c = b)
  | _ => false
theorem isBo_eq {o : Option RV} {b : Bool} (h : isBo o b = true) : o = some (.dat (.bool b)) := by
  unfold isBo at h
  split at h
  · rw [of_decide_eq_true h]
  · cases h
theorem rp_of_bulk {d : D} (h : repOk d = true) (a : d.depth ≤ 60) (b : d.bulk ≤ 8000) : rpOk d = true := by
  unfold rpOk
  rw [h, decide_eq_true a, decide_eq_true b]
  rfl
@[simp] theorem bools_true {α : Type} (l : List α) : bools (l.map fun _ => PyData.bool true) = some (l.map fun _ => true) := boolsF (fun _ => true) l
/-- a comprehension whose element changes what is around it (draws) -/
theorem lc_loop_inv {α β : Type} {vs : List Nat} {t : MT} {e : ME} (enc : α → D) (out : β → D) (I : List β → Env → Prop)
    (hs : ∀ a bs ρ, I bs ρ → ∃ ρ1 r y ρ3, t (enc a) ρ = some ρ1 ∧ e ρ1 = .ok r ρ3 ∧ frz [r] = some [out y] ∧ noPar ρ3 vs = true ∧ I (bs ++ [y]) (wipeE ρ3 vs)) :
    ∀ (l : List α) (bs : List β) (ρ : Env), I bs ρ → ∃ ys ρ', lcLoop vs t bYes e (l.map enc) ρ (bs.map out) = .ok ((bs ++ ys).map out) ρ' ∧ ys.length = l.length ∧ I (bs ++ ys) ρ'
  | [], bs, ρ, h => ⟨[], ρ, by simp [lcLoop], rfl, by simpa using h⟩
  | a :: l, bs, ρ, h => by
    obtain ⟨ρ1, r, y, ρ3, h1, h2, h3, h4, h5⟩ := hs a bs ρ h
    obtain ⟨ys, ρ', q1, q2, q3⟩ := lc_loop_inv enc out I hs l (bs ++ [y]) _ h5
    refine ⟨y :: ys, ρ', ?_, by simp [q2], by simpa using q3⟩
    rw [List.map_cons]
    unfold lcLoop
    rw [h1]
    show ((bYes ρ1).quiet.bind fun b ρ2 => if b then (e ρ2).quiet.bind fun r ρ3 => match frz [r] with
        | some [x] => if noPar ρ3 vs then lcLoop vs t bYes e (l.map enc) (wipeE ρ3 vs) (bs.map out ++ [x]) else .no
        | _ => .no
      else if noPar ρ2 vs then lcLoop vs t bYes e (l.map enc) (wipeE ρ2 vs) (bs.map out) else .no) = _
    show ((e ρ1).quiet.bind fun r ρ3 => match frz [r] with
        | some [x] => if noPar ρ3 vs then lcLoop vs t bYes e (l.map enc) (wipeE ρ3 vs) (bs.map out ++ [x]) else .no
        | _ => .no) = _
    rw [h2]
    show (match frz [r] with
        | some [x] => if noPar ρ3 vs then lcLoop vs t bYes e (l.map enc) (wipeE ρ3 vs) (bs.map out ++ [x]) else .no
        | _ => .no) = _
    rw [h3]
    show (if noPar ρ3 vs then lcLoop vs t bYes e (l.map enc) (wipeE ρ3 vs) (bs.map out ++ [out y]) else .no) = _
    rw [h4, if_pos rfl]
    have : bs.map out ++ [out y] = (bs ++ [y]).map out := by simp
    rw [this, q1]
    simp
theorem lc_inv (c : ME) {m : MI} {vs : List Nat} {t : MT} {e : ME} (hc : c = mLc m vs t bYes e) {α β : Type} (l : List α) (enc : α → D) (out : β → D) (I : List β → Env → Prop) {ρ ρ1 : Env} (hm : m ρ = .ok (l.map enc) ρ1) (hp : noPar ρ1 vs = true) (hl : l.length ≤ LINE)
    (h0 : I [] (wipeE ρ1 vs))
    (hs : ∀ a bs ρ, I bs ρ → ∃ ρ1 r y ρ3, t (enc a) ρ = some ρ1 ∧ e ρ1 = .ok r ρ3 ∧ frz [r] = some [out y] ∧ noPar ρ3 vs = true ∧ I (bs ++ [y]) (wipeE ρ3 vs)) :
    ∃ ys ρ', c ρ = .ok (.own (.list (ys.map out))) (backE ρ1 ρ' vs) ∧ ys.length = l.length ∧ I ys ρ' := by
  obtain ⟨ys, ρ', q1, q2, q3⟩ := lc_loop_inv enc out I hs l [] _ h0
  refine ⟨ys, ρ', ?_, q2, by simpa using q3⟩
  subst hc
  unfold mLc
  rw [hm]
  show (if noPar ρ1 vs && decide ((l.map enc).length ≤ LINE) then (lcLoop vs t bYes e (l.map enc) (wipeE ρ1 vs) []).bind fun acc ρ2 => Out.ok (RV.own (PyData.list acc)) (backE ρ1 ρ2 vs) else Out.no) = _
  rw [hp, decide_eq_true (by rw [List.length_map]; exact hl)]
  have : lcLoop vs t bYes e (l.map enc) (wipeE ρ1 vs) [] = .ok ((([] : List β) ++ ys).map out) ρ' := q1
  rw [this]
  simp
/-- deep data: within a tuple, a list, a dict -/
inductive Deep : D → Prop
  | t (d : D) : Deep (.tuple [d])
  | l (d : D) : Deep (.list [d])
  | k (d : D) : Deep (.dict [(.int 0, d)])
end PD

namespace PD
open PySem PySem.Spec PyProof.Rows L2
/-! ### calls without arguments -/
section
variable [Tab] [Zok] {X : Cx} {W : WX}
theorem q_callD0 {x : Str} {k j : Nat} {g : FS} {p pos : Pos} (Df : DefOk X.prog X.w X.K X.mg X.base k x [] g) (hr : Room j X.A) (hkj : k ≤ j) (hg : Gl X x) (tk : Takes X W)
    (hdb : (x == ("__debug__" : Str)) = false := by decide) :
    QE X W (.Call (.Name x p) [] [] pos) (mCall 0 g mNil) := by
  obtain ⟨f, fd, F1, hm, hk, hb⟩ := Df.ex
  refine q_call_of (n := 0) ⟨fun pins s σ H Q I h => ?_⟩
  obtain ⟨Z, F, ρ, S, k⟩ := h
  have q := k H F S .refl [] .nil .nil
  refine wpAny_Call_Name_kw (ld_glob I hg hm ?_ hdb)
  exact PySem.W.callWith_K0 I.kIn hk (run_fnS (us := []) F1 (hr.mono hkj) hb (passAt tk σ) I .nil q)
theorem q_callG0 {x : Str} {k j : Nat} {g : FS} {p pos : Pos} (Df : DefG X.prog X.w X.K X.mg X.base k x [] g) (hgd : X.A.guards = some []) (hr : Room j X.A) (hkj : k ≤ j) (hg : Gl X x) (tk : Takes X W)
    (hdb : (x == ("__debug__" : Str)) = false := by decide) :
    QE X W (.Call (.Name x p) [] [] pos) (mCall 0 g mNil) := by
  obtain ⟨f, fd, F1, hm, hk, hb⟩ := Df.ex
  refine q_call_of (n := 0) ⟨fun pins s σ H Q I h => ?_⟩
  obtain ⟨Z, F, ρ, S, k⟩ := h
  have q := k H F S .refl [] .nil .nil
  refine wpAny_Call_Name_kw (ld_glob I hg hm ?_ hdb)
  refine PySem.W.callWith_K0 I.kIn hk ?_
  have b := hb s [] I.kIn rfl
  refine wpAny_call (codeAny_mono (F1.run X.A X.stack s H ⟨[], []⟩ [] [] Q (WE W σ) (hr.mono hkj) hgd I.env0 b .nil q) fun r s' hq => ?_)
  cases r with
  | error e => exact passAt tk σ pins H s e s' I hq
  | ok fl =>
    cases fl with
    | ret u => exact I.after hq
    | next => exact False.elim hq
    | brk => exact False.elim hq
    | cont => exact False.elim hq
end
end PD

namespace PD
open PySem PySem.Spec PyProof.Rows L2
/-! ### defs as values: for f in (g, h, ..): .., f(e, ..) -/
/-- a def of the module, by its name: what the written part says, and the module -/
def FnNm (K : PySem.W.Frag) (mg : Str → Option Value) (x : Str) : Prop := ∃ f, mg x = some (.ref f) ∧ PySem.W.nsIn K mainGlobals x = some (some (.ref f))
/-- x(..), x a slot that holds the def y -/
def mCallV (i : Nat) (y : Str) (n : Nat) (g : FS) (m : MEs) : ME := fun ρ => match ρ[i]? with
  | some (some (.opq (.fnv z))) => if z = y then mCall n g m ρ else .no
  | _ => .no
/-- the body, once for each def -/
def forF (i : Nat) (b : Str → FS → MS) : List (Str × FS) → MS
  | [], ρ => .next ρ
  | (x, g) :: l, ρ => if parAt ρ i || !decide (i < ρ.length) then .no else match b x g (ρ.set i (some (.opq (.fnv x)))) with
    | .next ρ1 => forF i b l ρ1
    | .cont ρ1 => forF i b l ρ1
    | .brk ρ1 => .next ρ1
    | o => o
section
variable [Tab] [Zok] {X : Cx} {W : WX}
theorem q_callV {x y : Str} {ps : List Str} {i k j n : Nat} {g : FS} {p pos : Pos} {e : Expr} {es : List Expr} {m : MEs} (Df : DefOk X.prog X.w X.K X.mg X.base k y ps g) (Nm : FnNm X.K X.mg y) (hr : Room j X.A) (hkj : k ≤ j) (hv : PE X (.Name x p) (tVar i)) (tk : Takes X W) (ha : QA X W (e :: es) m) (hn : ps.length = n)
    (he : starEach (e :: es) X.env = (false, eval e X.env) :: starEach es X.env := by rfl) (hpl : (backTo pos (starEach es X.env)).any (·.1) = false := by rfl) :
    QE X W (.Call (.Name x p) (e :: es) [] pos) (mCallV i y n g m) := by
  obtain ⟨f, fd, F1, hm, hk, hb⟩ := Df.ex
  subst hn
  refine ⟨fun pins s σ H Q I h => ?_⟩
  obtain ⟨Z, F, ρ, S, kk⟩ := h
  unfold mCallV at kk
  split at kk
  · rename_i z hz
    split at kk
    · rename_i ez
      subst ez
      obtain ⟨v, h1, h2⟩ := S.slot i _ hz
      obtain ⟨f1, rfl, h3⟩ := h2
      obtain ⟨f2, n1, n2⟩ := Nm
      rw [n2] at h3
      cases h3
      rw [hm] at n1
      cases n1
      have rd := call_read (X := X) (W := W) (n := ps.length) (g := g) (m := m) ⟨Z, F, ρ, S, kk⟩
      refine wpAny_Call_Name_kw (thn (hv.run pins s σ H (fun v H1 => v = .ref f ∧ H1 = H) I ⟨.ref f, h1, rfl, rfl⟩) fun u s1 ⟨v, H1, I1, r1, ev, eH⟩ => ?_)
      subst ev
      rw [eH] at I1
      obtain rfl : u = Value.ref f := r1
      refine PySem.W.callWith_K (h₀ := X.base) I1.ok.mod.kin hk (thn (ha.run pos pins s1 σ H _ I1 rd) fun us s2 ⟨vs, H2, I2, r, q⟩ => ⟨I2.kIn, ?_⟩) he hpl
      exact run_fnS F1 (hr.mono hkj) hb (passAt tk σ) I2 r q
    · exact kk.elim
  · exact kk.elim
omit [Tab] [Zok] in
/-- names of defs, written one behind the other -/
def QFs (X : Cx) (es : List Expr) (xs : List Str) : Prop := ∃ fs : List Addr, fs.length = xs.length ∧ PA X es (fun _ H Q => Q (fs.map V.ref) H) ∧ ∀ (j : Nat) x f, xs[j]? = some x → fs[j]? = some f → PySem.W.nsIn X.K mainGlobals x = some (some (.ref f))
omit [Tab] [Zok] in
theorem qfs_nil : QFs X [] [] := ⟨[], rfl, pa_nil, fun j x f h => by simp at h⟩
omit [Tab] [Zok] in
theorem qfs_cons {x : Str} {p : Pos} {es : List Expr} {xs : List Str} (Nm : FnNm X.K X.mg x) (hg : Gl X x) (t : QFs X es xs) (hd : (x == ("__debug__" : Str)) = false := by decide) (hs : starEach (Expr.Name x p :: es) X.env = (false, eval (.Name x p) X.env) :: starEach es X.env := by rfl) : QFs X (.Name x p :: es) (x :: xs) := by
  obtain ⟨f, n1, n2⟩ := Nm
  obtain ⟨fs, h1, h2, h3⟩ := t
  refine ⟨f :: fs, by simp [h1], PA.of (pa_cons (pe_glob (v := .ref f) hg n1 rfl hd) h2 hs) fun σ H Q q => q, fun j y g e1 e2 => ?_⟩
  cases j with
  | zero => simp at e1 e2; subst e1 e2; exact n2
  | succ j => exact h3 j y g (by simpa using e1) (by simpa using e2)
theorem qs_forF {i : Nat} {l : List (Str × FS)} {b : Str → FS → MS} {tg : Expr} {es : List Expr} {kk} {tp pos : Pos} {body : List Stmt} (hp : PassesOwn (model X.prog X.w) X.A X.env X.xe) (hc : X.calm = true) (hfs : QFs X es (l.map (·.1))) (hg : PG X tg (gName i)) (hl : l.length ≤ 100) (hb : ∀ p ∈ l, QB X W body (b p.1 p.2))
    (hs : ∀ x, foldedSetIterable (.Tuple es kk tp) X.env x = pure x := by intro _; rfl) : QS X W (.For tg (.Tuple es kk tp) body [] pos) (forF i b l) := by
  obtain ⟨fs, hlen, hPA, hns⟩ := hfs
  rw [List.length_map] at hlen
  have hb' : PSs X body (fun D σ H => ∃ p ∈ l, RS X W (b p.1 p.2) D σ H) := ⟨fun pins s σ H D I ⟨p, hm, h⟩ => (hb p hm).run pins s σ H D I h⟩
  refine PS.of (ps_for hp hc (pi_seqA (pe_tup hPA)) hg hb' (hs := hs)) fun D σ H hq => ?_
  obtain ⟨Z, F, ρ, S, k⟩ := hq
  refine ⟨by rw [List.length_map, hlen, line_eq]; show l.length ≤ 16777216; omega, fun q nq => ?_⟩
  obtain ⟨S1, st1⟩ := S.new (o := .tup (fs.map V.ref)) nq
  have nF : ¬ F q := (S.noown nq).1
  refine .inl ⟨q, rfl, .inr ⟨⟨_, .inl (.inl upd_same)⟩, ?_⟩⟩
  refine ⟨fun j n σ' H' => n = l.length - j ∧ j ≤ l.length ∧ ∃ F' ρ', SR X.K Z F' ρ' σ' H' ∧ Car F F' (upd H q (.tup (fs.map V.ref))) H' ∧ (∀ a, upd H q (.tup (fs.map V.ref)) a ≠ none → H' a ≠ none) ∧ PostS X W Z σ' F' ρ' H' D (forF i b (l.drop j) ρ'), ⟨l.length, by simp, Nat.zero_le _, F, ρ, S1, .refl, fun _ h => h, by simpa using PostS.later k st1.s⟩, ?_⟩
  rintro j n σ' H' ⟨rfl, hj, F', ρ', S', c', dm', k'⟩
  have tp' : H' q = some (.tup (fs.map V.ref)) := c'.rd q _ nF nt_tup upd_same
  by_cases hlt : j < l.length
  · have hf : fs[j]? = some (fs[j]'(by omega)) := List.getElem?_eq_getElem (by omega)
    have hx : (fs.map V.ref)[j]? = some (.ref (fs[j]'(by omega))) := by rw [List.getElem?_map, hf]; rfl
    refine .inr ⟨⟨_, _, .inl (.inl tp'), hx⟩, fun σ3 H3 => ∃ F3 ρ3, SR X.K Z F3 ρ3 σ3 H3 ∧ Car F F3 (upd H q (.tup (fs.map V.ref))) H3 ∧ (∀ a, upd H q (.tup (fs.map V.ref)) a ≠ none → H3 a ≠ none) ∧ PostS X W Z σ3 F3 ρ3 H3 D (forF i b (l.drop (j + 1)) ρ3), fun σ3 H3 h3 => ⟨l.length - (j + 1), by omega, rfl, hlt, h3⟩, fun x H2 y => ?_⟩
    obtain ⟨e2, y⟩ := y
    subst e2
    have hx2 := y _ (.inl (.inl tp'))
    rw [hx] at hx2
    cases hx2
    have hdrop : l.drop j = l[j] :: l.drop (j + 1) := List.drop_eq_getElem_cons hlt
    rw [hdrop] at k'
    have ns := hns j (l[j]).1 _ (by rw [List.getElem?_map, List.getElem?_eq_getElem hlt]; rfl) hf
    have hmem : l[j] ∈ l := List.getElem_mem hlt
    generalize l[j] = xg at *
    obtain ⟨nm, g⟩ := xg
    unfold forF at k'
    split at k'
    · exact k'.elim
    · rename_i np
      rw [Bool.or_eq_true, not_or] at np
      have np1 : parAt ρ' i = false := by simpa using np.1
      have ob : SlotOk X.K F' H2 (.ref (fs[j]'(by omega))) (.opq (.fnv nm)) := ⟨_, rfl, ns⟩
      have S2 := S'.set (sv := .opq (.fnv nm)) np1 ob fun _ z => nomatch z
      have st2 : StepS σ' (σ'.set i (some (.ref (fs[j]'(by omega))))) F' F' ρ' (ρ'.set i (some (.opq (.fnv nm)))) H2 H2 := step_set .refl S'.al fun _ z => nomatch z
      refine ⟨(nm, g), hmem, Z, F', _, S2, ?_⟩
      have k2 := PostS.later k' st2
      have base : ∀ σ4 H4 F4 ρ4, SR X.K Z F4 ρ4 σ4 H4 → StepS (σ'.set i (some (.ref (fs[j]'(by omega))))) σ4 F' F4 (ρ'.set i (some (.opq (.fnv nm)))) ρ4 H2 H4 → Car F F4 (upd H q (.tup (fs.map V.ref))) H4 ∧ ∀ a, upd H q (.tup (fs.map V.ref)) a ≠ none → H4 a ≠ none := fun σ4 H4 F4 ρ4 S4 st4 =>
        ⟨c'.trans st4.car dm', fun a h => st4.dom a (dm' a h)⟩
      dsimp only at k2 ⊢
      cases gb : b nm g (ρ'.set i (some (.opq (.fnv nm)))) with
      | next ρ3 =>
        rw [gb] at k2
        intro σ4 H4 F4 S4 st4
        obtain ⟨b1, b2⟩ := base _ _ _ _ S4 st4
        exact ⟨F4, ρ3, S4, b1, b2, PostS.later k2 st4⟩
      | cont ρ3 =>
        rw [gb] at k2
        intro σ4 H4 F4 S4 st4
        obtain ⟨b1, b2⟩ := base _ _ _ _ S4 st4
        exact ⟨F4, ρ3, S4, b1, b2, PostS.later k2 st4⟩
      | brk ρ3 => rw [gb] at k2; exact k2
      | ret r ρ3 => rw [gb] at k2; exact k2
      | exc e ρ3 => rw [gb] at k2; exact k2
      | no => rw [gb] at k2; exact k2
  · have e : j = l.length := by omega
    subst e
    refine .inl ⟨⟨_, .inl (.inl tp'), by rw [List.length_map]; omega⟩, ?_⟩
    rw [List.drop_length] at k'
    exact k' σ' H' F' S' .refl
end
theorem fnNm_mk {K : PySem.W.Frag} {h : Heap} {mg : Str → Option Value} {x : Str} {f : Addr} (X : K.In h) (G : h.Ns mainGlobals mg) (a : PySem.W.nsIn K mainGlobals x = some (some (.ref f))) : FnNm K mg x := ⟨f, PySem.W.mg_of X G a, a⟩
theorem forF_nil (i : Nat) (b : Str → FS → MS) (ρ : Env) : forF i b [] ρ = .next ρ := (rfl)
theorem forF_cons (i : Nat) (b : Str → FS → MS) (x : Str) (g : FS) (l : List (Str × FS)) (ρ : Env) : forF i b ((x, g) :: l) ρ = if parAt ρ i || !decide (i < ρ.length) then .no else match b x g (ρ.set i (some (.opq (.fnv x)))) with
    | .next ρ1 => forF i b l ρ1
    | .cont ρ1 => forF i b l ρ1
    | .brk ρ1 => .next ρ1
    | o => o := (rfl)
@[simp] theorem r_mCallV (i : Nat) (y : Str) (n : Nat) (g : FS) (m : MEs) (ρ : Env) : mCallV i y n g m ρ = match ρ[i]? with
  | some (some (.opq (.fnv z))) => if z = y then mCall n g m ρ else .no
  | _ => .no := (rfl)
@[simp] theorem r_mIsX (names : List Str) (f : Str → Bool) (m : ME) (ρ : Env) : mIsX names f m ρ = (m ρ).bind fun r ρ1 => match r with
  | .thg (.exc c) => if c ∈ names then .ok (.dat (.bool (f c))) ρ1 else .no
  | _ => .no := (rfl)
theorem mTold_thg {n : Nat} {m : ME} {mb : TR → MS} {ρ : Env} {x : Str} {o : OV} {outs : List D} (h : excOf (m (datE ρ)) = some x) (k : fn n (mb (.exc ⟨x, []⟩)) [.opq .unk] = .ok (.opq o) outs) : mTold n m mb ρ = .ok (.thg o) ρ := by
  obtain ⟨ρ', h⟩ := excOf_of h
  unfold mTold trOf
  rw [h]
  show (match (fn n (mb (.exc ⟨x, []⟩)) [.opq .unk] : FO) with
    | .ok (.dat d) _ => (Out.ok (RV.dat d) ρ : Out RV)
    | .ok (.own d) _ => .ok (RV.own d) ρ
    | .ok (.opq o) _ => .ok (RV.thg o) ρ
    | _ => .no) = _
  rw [k]
end PD

namespace PD
open PySem PySem.Spec PyProof.Rows L2
/-! ### list(range(i, j, c)): a new list -/
def stV (i c : Int) (n : Nat) : List V := (List.range n).map fun k => V.int (i + (k : Nat) * c)
theorem stV_vals {i c : Int} {n : Nat} {acc : Array Value} (h : ItemsOf (fun k v => ∃ t, v = .int (i + k * c) t) acc n) : Vals (stV i c n) acc.toList := by
  have e : acc.toList.length = n := by rw [Array.length_toList]; exact h.1
  unfold stV
  rw [← e]
  refine vals_of_get acc.toList _ fun j u hj => ?_
  obtain ⟨t, rfl⟩ := h.2 j u (by rw [← hj, Array.getElem?_toList])
  exact ⟨t, rfl⟩
def tLst3 (ta : TA) : TE := fun σ H Q => ta σ H fun vs H1 => ∃ (i j c : Int) (n : Nat), vs = [.int i, .int j, .int c] ∧ RgC i j c n ∧ n ≤ 2 ^ 24 ∧ ∀ q, H1 q = none → Q (.ref q) (upd H1 q (.lst (stV i c n)))
section
variable {X : Cx}
theorem pe_list3 {a b c : Expr} {ta : TA} {p p2 pos pos2 : Pos} (hc : X.calm = true) (hg : Gl X "list") (hm : X.mg "list" = none) (hg2 : Gl X "range") (hm2 : X.mg "range" = none) (ha : PA X [a, b, c] ta)
    (na : starEach [Expr.Call (.Name "range" p2) [a, b, c] [] pos2] X.env = (false, eval (Expr.Call (.Name "range" p2) [a, b, c] [] pos2) X.env) :: starEach [] X.env := by rfl)
    (hs : starEach [a, b, c] X.env = (false, eval a X.env) :: starEach [b, c] X.env := by rfl) (hpl : (backTo pos2 (starEach [b, c] X.env)).any (·.1) = false := by rfl) :
    PE X (.Call (.Name "list" p) [.Call (.Name "range" p2) [a, b, c] [] pos2] [] pos) (tLst3 ta) := by
  refine ⟨fun pins s σ H Q I h => ?_⟩
  have rg : wpAny (model X.prog X.w) X.A (eval (Expr.Call (.Name "range" p2) [a, b, c] [] pos2) X.env) (fun x s' => ∃ (r : Addr) (i j k : Int) (n : Nat) (t u v : Tok) (H' : Hp), x = .ref r ∧ IsRange s'.heap r i j k t u v ∧ Inv X pins σ H' s' ∧ RgC i j k n ∧ n ≤ 2 ^ 24 ∧ ∀ q, H' q = none → Q (.ref q) (upd H' q (.lst (stV i k n)))) X.xe s := by
    refine Call_ (ld_blt I hg2 hm2 boot_range (PyProof.Rows.callWith_type1 (thn (ha.run pos2 pins s σ H _ I h) fun us s1 ⟨vs, H1, I1, r1, q1⟩ => ?_) hs hpl))
    obtain ⟨i, j, k, n, e, rc, hn, q⟩ := q1
    subst e
    cases r1 with
    | cons r rr =>
      cases rr with
      | cons r' rr =>
        cases rr with
        | cons r'' rr =>
          cases rr
          obtain ⟨t, rfl⟩ := r
          obtain ⟨t', rfl⟩ := r'
          obtain ⟨t'', rfl⟩ := r''
          refine call_range_3 rc.1 ?_ (.inl (PyProof.noPylong_small rc.2.1))
          exact ⟨_, i, j, k, n, t, t', t'', H1, rfl, IsRange.new _ _ _ _ _ _ _, I1.kept (t' := s1.toks) fun b o e => Heap.get?_push_of_some _ e, rc, hn, q⟩
  refine Call_ (ld_blt I hg hm boot_list (PyProof.Rows.callWith_type1 (args_cons (thn rg fun x s1 ⟨r, i, j, k, n, t, u, v, H1, ex, hr, I1, rc, hn, q⟩ => args_nil ?_) na) na))
  subst ex
  refine call_list_range (n := n) (I1.ok.hd hc) hr rc.2.2.1 rc.2.2.2 hn fun h' tk acc c' hk e' hi => ?_
  refine ⟨.ref s1.heap.objs.size, upd H1 s1.heap.objs.size (.lst (stV i k n)), I1.laid hk (Nat.le_refl _) (show ObjOk X.prog X.w _ _ _ (.lst (stV i k n)) from ⟨?_, acc.toList, c', stV_vals hi, ?_⟩), rfl, q _ (I1.hok.fresh (Nat.le_refl _))⟩
  · unfold stV
    rw [List.length_map, List.length_range, sizeLine_eq]
    omega
  · rw [Array.toArray_toList]; exact e'
end
def mLR3 (m : MEs) : ME := fun ρ => (m ρ).bind fun rs ρ1 => match rs with
  | [.dat (.int i), .dat (.int j), .dat (.int c)] =>
    if rOk i && rOk j && decide (c = -1) && decide (i - j ≤ 16777216) then .ok (.own (.list (rangeN i j))) ρ1
    else if rOk i && rOk j && decide (0 < c) && decide (c < 1073741824) && decide (j - i ≤ 16777216) then .ok (.own (.list (rangeC i j c))) ρ1
    else .no
  | _ => .no
section
variable [Tab] [Zok] {X : Cx} {W : WX}
theorem q_lr3 {a b c : Expr} {m : MEs} {p p2 pos pos2 : Pos} (hc : X.calm = true) (hg : Gl X "list") (hm : X.mg "list" = none) (hg2 : Gl X "range") (hm2 : X.mg "range" = none) (ha : QA X W [a, b, c] m)
    (na : starEach [Expr.Call (.Name "range" p2) [a, b, c] [] pos2] X.env = (false, eval (Expr.Call (.Name "range" p2) [a, b, c] [] pos2) X.env) :: starEach [] X.env := by rfl)
    (hs : starEach [a, b, c] X.env = (false, eval a X.env) :: starEach [b, c] X.env := by rfl) (hpl : (backTo pos2 (starEach [b, c] X.env)).any (·.1) = false := by rfl) :
    QE X W (.Call (.Name "list" p) [.Call (.Name "range" p2) [a, b, c] [] pos2] [] pos) (mLR3 m) := by
  refine PE.of (pe_list3 hc hg hm hg2 hm2 ha na hs hpl) fun σ H Q hq => ?_
  obtain ⟨Z, F, ρ, S, k⟩ := hq
  refine ⟨Z, F, ρ, S, Post.bind0 k fun rs ρ1 H1 F1 e1 S1 st1 k1 vs vo nw => ?_⟩
  split at k1
  · rename_i i j c
    have e := ints3 vo
    split at k1
    · rename_i hj
      rw [Bool.and_eq_true, Bool.and_eq_true, Bool.and_eq_true, decide_eq_true_eq, decide_eq_true_eq] at hj
      obtain ⟨⟨⟨hj1, hj2⟩, rfl⟩, h5⟩ := hj
      obtain ⟨h1, h2⟩ := rOk_of hj1
      obtain ⟨h3, h4⟩ := rOk_of hj2
      refine ⟨i, j, -1, (i - j).toNat, e, RgC.neg h1 h2 h3 h4, by omega, ?_⟩
      have z : (stV i (-1) (i - j).toNat).length ≤ sizeLine := by unfold stV; rw [List.length_map, List.length_range, line_eq]; show _ ≤ 16777216; omega
      exact (Post.later (o := Out.ok (RV.own (.list (rangeN i j))) ρ1) k1 st1).lst S1 (rep_rg X.K F1 H1 (fun a => i + (a : Nat) * (-1)) _) z st1.dom
    · split at k1
      · rename_i hj
        rw [Bool.and_eq_true, Bool.and_eq_true, Bool.and_eq_true, Bool.and_eq_true, decide_eq_true_eq, decide_eq_true_eq, decide_eq_true_eq] at hj
        obtain ⟨⟨⟨⟨hj1, hj2⟩, h5⟩, h6⟩, h7⟩ := hj
        obtain ⟨h1, h2⟩ := rOk_of hj1
        obtain ⟨h3, h4⟩ := rOk_of hj2
        have sl := stepN_le (i := i) (j := j) h5
        have sl2 : stepN i j c ≤ 16777216 := by omega
        refine ⟨i, j, c, stepN i j c, e, rgC_up h1 h2 h3 h4 h5 h6, sl2, ?_⟩
        have z : (stV i c (stepN i j c)).length ≤ sizeLine := by unfold stV; rw [List.length_map, List.length_range, line_eq]; exact sl2
        exact (Post.later (o := Out.ok (RV.own (.list (rangeC i j c))) ρ1) k1 st1).lst S1 (rep_rg X.K F1 H1 (fun a => i + (a : Nat) * c) _) z st1.dom
      · exact k1.elim
  · exact k1.elim
end
@[simp] theorem r_mLR3 (m : MEs) (ρ : Env) : mLR3 m ρ = (m ρ).bind fun rs ρ1 => match rs with
  | [.dat (.int i), .dat (.int j), .dat (.int c)] =>
    if rOk i && rOk j && decide (c = -1) && decide (i - j ≤ 16777216) then .ok (.own (.list (rangeN i j))) ρ1
    else if rOk i && rOk j && decide (0 < c) && decide (c < 1073741824) && decide (j - i ≤ 16777216) then .ok (.own (.list (rangeC i j c))) ρ1
    else .no
  | _ => .no := (rfl)
end PD

namespace LW
open PySem PD

def c_MOST_PLACES : D := .int 24
theorem q_MOST_PLACES : c_MOST_PLACES = .int 24 := rfl
def c_MOST_HIGH : D := .int 1000
theorem q_MOST_HIGH : c_MOST_HIGH = .int 1000 := rfl
def xnames : List Str := [("NoLine" : Str), ("NoNumber" : Str)]
def N_l_hand : List Str := [("script" : Str), ("from_script" : Str), ("cell" : Str)]
def m_l_hand : MS :=
    sSeq (sSet 1 (mLc (iSeq (mSlice (mV 0) (oNone) (oSome (mC (.int 63))))) [2] (tName 2) (bYes) (mN (mCons (mN (mCons (mV 2) (mNil)) (on1 dInt)) (mNil)) (on1 dAbs))))
    (sRet (mList (mCons (mV 1) (mCons (mC (.int 0)) (mCons (mC (.int 0)) (mCons (m2 (mC (.int 397)) (m2 (mC (.int 157)) (mN (mCons (mV 1) (mNil)) (on1 dLen)) dMul) dAdd) (mCons (mC (.int 0)) (mNil))))))))
def g_l_hand : FS := fn 3 m_l_hand

def N_l_is : List Str := [("mine" : Str), ("yours" : Str)]
def m_l_is : MS :=
    sRet (m2 (mN (mCons (mV 0) (mNil)) (on1 dRepr)) (mN (mCons (mV 1) (mNil)) (on1 dRepr)) dEq)
def g_l_is : FS := fn 2 m_l_is

def N_l_draw : List Str := [("hand" : Str), ("many" : Str), ("number" : Str), ("cell" : Str), ("digit" : Str)]
def m_l_draw : MS :=
    sSeq (sIf (bAnd (bT (m2 (m2 (mV 0) (mC (.int 2)) dIx) (mC (.int 0)) dEq)) (bT (m2 (m2 (mV 0) (mC (.int 1)) dIx) (mN (mCons (m2 (mV 0) (mC (.int 0)) dIx) (mNil)) (on1 dLen)) dLt))) (sSeq (sSet 3 (m2 (m2 (mV 0) (mC (.int 0)) dIx) (m2 (mV 0) (mC (.int 1)) dIx) dIx))
    (sSeq (sSetIx 0 (mC (.int 1)) (m2 (m2 (mV 0) (mC (.int 1)) dIx) (mC (.int 1)) dAdd))
    (sSeq (sSetIx 0 (mC (.int 3)) (m2 (mN (mCons (m2 (m2 (m2 (m2 (mV 0) (mC (.int 3)) dIx) (mC (.int 69621)) dMul) (m2 (mV 3) (mC (.int 48271)) dMul) dAdd) (mC (.int 17)) dAdd) (mNil)) (on1 dInt)) (mC (.int 2147483629)) dMod))
    (sIf (bT (m2 (mV 3) (m2 (mC (.int 10)) (mC (.int 18)) dPow) dGe)) (sSetIx 0 (mC (.int 2)) (mV 3)) (sPass))))) (sPass))
    (sSeq (sIf (bT (m2 (m2 (mV 0) (mC (.int 2)) dIx) (mC (.int 0)) dGt)) (sSeq (sSet 4 (m2 (mN (mCons (m2 (mV 0) (mC (.int 2)) dIx) (mNil)) (on1 dInt)) (mV 1) dMod))
    (sSeq (sSetIx 0 (mC (.int 2)) (m2 (m2 (mV 0) (mC (.int 2)) dIx) (mV 1) dDiv))
    (sRet (mV 4)))) (sPass))
    (sSeq (sSetIx 0 (mC (.int 4)) (m2 (m2 (mV 0) (mC (.int 4)) dIx) (mC (.int 1)) dAdd))
    (sSeq (sSet 2 (m2 (mN (mCons (m2 (mN (mCons (m2 (m2 (mV 0) (mC (.int 3)) dIx) (m2 (mC (.int 7919)) (m2 (mV 0) (mC (.int 4)) dIx) dMul) dAdd) (mNil)) (on1 dInt)) (mC (.int 40692)) dMul) (mNil)) (on1 dInt)) (mC (.int 2147483647)) dMod))
    (sSeq (sSet 2 (m2 (mN (mCons (m2 (mV 2) (m2 (m2 (mV 2) (mC (.int 1009)) dDiv) (mC (.int 69621)) dAdd) dMul) (mNil)) (on1 dInt)) (mC (.int 2147483647)) dMod))
    (sSeq (sSet 2 (m2 (mN (mCons (m2 (mV 2) (m2 (m2 (mV 2) (mC (.int 2003)) dDiv) (mC (.int 40014)) dAdd) dMul) (mNil)) (on1 dInt)) (mC (.int 2147483563)) dMod))
    (sRet (m2 (mN (mCons (m2 (mV 2) (mC (.int 16)) dDiv) (mNil)) (on1 dInt)) (mV 1) dMod)))))))
def g_l_draw : FS := fn 5 m_l_draw

def N_l_some : List Str := [("hand" : Str), ("things" : Str)]
def m_l_some : MS :=
    sRet (m2 (mV 1) (mCall 2 g_l_draw (mCons (mV 0) (mCons (mN (mCons (mV 1) (mNil)) (on1 dLen)) (mNil)))) dIx)
def g_l_some : FS := fn 2 m_l_some

def N_l_no_line : List Str := [("hand" : Str), ("some" : Str)]
def m_l_no_line : MS :=
    sSeq (sSet 1 (mList (mCons (mC (.str ("?" : Str))) (mCons (mC .none) (mCons (mC (.int 0)) (mCons (mTup (mNil)) (mCons (mTup (mCons (mC (.int 1)) (mNil))) (mCons (mList (mCons (mC (.int 1)) (mCons (mC (.int 2)) (mNil)))) (mCons (mTup (mCons (mC (.int 1)) (mCons (mC (.int 1001)) (mNil)))) (mCons (mTup (mCons (m1 (mC (.int 1)) dNeg) (mCons (mC (.int 2)) (mNil)))) (mCons (mTup (mCons (mC (.bool true)) (mCons (mC (.int 2)) (mNil)))) (mCons (m2 (mTup (mCons (mC (.int 0)) (mNil))) (mC (.int 25)) dMul) (mCons (mTup (mCons (mC (.str ("1" : Str))) (mCons (mC (.int 2)) (mNil)))) (mCons (mDict0) (mNil)))))))))))))))
    (sRet (mCall 2 g_l_some (mCons (mV 0) (mCons (mV 1) (mNil)))))
def g_l_no_line : FS := fn 2 m_l_no_line

def N_l_no_place : List Str := [("hand" : Str), ("many" : Str)]
def m_l_no_place : MS :=
    sRet (mCall 2 g_l_some (mCons (mV 0) (mCons (mList (mCons (mC (.str ("?" : Str))) (mCons (mC .none) (mCons (m1 (mC (.int 1)) dNeg) (mCons (mV 1) (mCons (mC (.bool true)) (mCons (mTup (mCons (mC (.int 0)) (mNil))) (mNil)))))))) (mNil))))
def g_l_no_place : FS := fn 2 m_l_no_place

def N_l_no_eye : List Str := [("hand" : Str)]
def m_l_no_eye : MS :=
    sRet (mCall 2 g_l_some (mCons (mV 0) (mCons (mList (mCons (mC (.str ("?" : Str))) (mCons (mC .none) (mCons (m1 (mC (.int 1)) dNeg) (mCons (mC (.int 1001)) (mCons (mC (.bool true)) (mCons (mTup (mCons (mC (.int 1)) (mNil))) (mNil)))))))) (mNil))))
def g_l_no_eye : FS := fn 1 m_l_no_eye

def N_p_is_sized : List Str := [("thing" : Str), ("least" : Str), ("most" : Str)]
def m_p_is_sized : MS :=
    sRet (mAndV (mIsi (mV 0) dIsTuple) (mChain dLe dLe (mV 1) (mN (mCons (mV 0) (mNil)) (on1 dLen)) (mV 2)))
def g_p_is_sized : FS := fn 3 m_p_is_sized

def N_p_is_integer : List Str := [("thing" : Str)]
def m_p_is_integer : MS :=
    sRet (mAndV (mIsi (mV 0) dIsInt) (mNotV (mIsi (mV 0) dIsBool)))
def g_p_is_integer : FS := fn 1 m_p_is_integer

def N_p_is_within : List Str := [("thing" : Str), ("least" : Str), ("most" : Str)]
def m_p_is_within : MS :=
    sRet (mAndV (mCall 1 g_p_is_integer (mCons (mV 0) (mNil))) (mChain dLe dLe (mV 1) (mV 0) (mV 2)))
def g_p_is_within : FS := fn 3 m_p_is_within

def N_p_is_line : List Str := [("thing" : Str), ("one" : Str)]
def m_p_is_line : MS :=
    sRet (mAndV (mCall 3 g_p_is_sized (mCons (mV 0) (mCons (mC (.int 2)) (mCons (mC c_MOST_PLACES) (mNil))))) (mN (mCons (mLc (iSeq (mV 0)) [1] (tName 1) (bYes) (mCall 3 g_p_is_within (mCons (mV 1) (mCons (mC (.int 0)) (mCons (mC c_MOST_HIGH) (mNil)))))) (mNil)) (on1 dAll)))
def g_p_is_line : FS := fn 2 m_p_is_line

def N_p_check_line : List Str := [("thing" : Str)]
def m_p_check_line : MS :=
    sIf (bNot (bT (mCall 1 g_p_is_line (mCons (mV 0) (mNil))))) (sRaise ("NoLine" : Str)) (sPass)
def g_p_check_line : FS := fn 1 m_p_check_line

def N_p_check_number : List Str := [("thing" : Str), ("least" : Str), ("most" : Str)]
def m_p_check_number : MS :=
    sIf (bNot (bT (mCall 3 g_p_is_within (mCons (mV 0) (mCons (mV 1) (mCons (mV 2) (mNil))))))) (sRaise ("NoNumber" : Str)) (sPass)
def g_p_check_number : FS := fn 3 m_p_check_number

def N_p_check_place : List Str := [("line" : Str), ("place" : Str)]
def m_p_check_place : MS :=
    sExpr (mCall 3 g_p_check_number (mCons (mV 1) (mCons (mC (.int 0)) (mCons (m2 (mN (mCons (mV 0) (mNil)) (on1 dLen)) (mC (.int 1)) dSub) (mNil)))))
def g_p_check_place : FS := fn 2 m_p_check_place

def N_p_hidden_told : List Str := [("line" : Str), ("one" : Str), ("other" : Str), ("eye" : Str), ("step" : Str), ("whole" : Str), ("far" : Str), ("place" : Str)]
def m_p_hidden_told : MS :=
    sSeq (sExpr (mCall 1 g_p_check_line (mCons (mV 0) (mNil))))
    (sSeq (sExpr (mCall 2 g_p_check_place (mCons (mV 0) (mCons (mV 1) (mNil)))))
    (sSeq (sExpr (mCall 2 g_p_check_place (mCons (mV 0) (mCons (mV 2) (mNil)))))
    (sSeq (sExpr (mCall 3 g_p_check_number (mCons (mV 3) (mCons (mC (.int 0)) (mCons (mC c_MOST_HIGH) (mNil))))))
    (sSeq (sSet 4 (mIf (bT (m2 (mV 2) (mV 1) dGt)) (mC (.int 1)) (m1 (mC (.int 1)) dNeg)))
    (sSeq (sSet 5 (mN (mCons (m2 (mV 2) (mV 1) dSub) (mNil)) (on1 dAbs)))
    (sSeq (sFor (iRange2 (mCons (mC (.int 1)) (mCons (mV 5) (mNil)))) (tName 6) (sSeq (sSet 7 (m2 (mV 1) (m2 (mV 4) (mV 6) dMul) dAdd))
    (sIf (bT (m2 (m2 (m2 (mV 0) (mV 7) dIx) (mV 5) dMul) (m2 (m2 (m2 (m2 (mV 0) (mV 1) dIx) (mV 3) dAdd) (m2 (mV 5) (mV 6) dSub) dMul) (m2 (m2 (mV 0) (mV 2) dIx) (mV 6) dMul) dAdd) dGt)) (sRet (mTup (mCons (mC (.str ("hill" : Str))) (mCons (mV 7) (mNil))))) (sPass))))
    (sRet (mTup (mCons (mC (.str ("seen" : Str))) (mNil))))))))))
def g_p_hidden_told : FS := fn 8 m_p_hidden_told

def N_l_error : List Str := [("call" : Str), ("error" : Str)]
def t_told (tr : TR) : MS :=
    sSeq (sTry 1 (caught xnames) (sExpr (mAct tr)) (fun e => sRet (mV 1)))
    (sRet (mC .none))

def N_l_line : List Str := [("hand" : Str), ("most" : Str), ("wide" : Str), ("place" : Str)]
def m_l_line : MS :=
    sSeq (sSet 2 (mCall 2 g_l_some (mCons (mV 0) (mCons (mList (mCons (mC (.int 2)) (mCons (mC (.int 5)) (mCons (mC (.int 12)) (mCons (mC (.int 1001)) (mNil)))))) (mNil)))))
    (sRet (mN (mCons (mLc (iRange1 (mCons (m2 (mC (.int 2)) (mCall 2 g_l_draw (mCons (mV 0) (mCons (m2 (mV 1) (mC (.int 1)) dSub) (mNil)))) dAdd) (mNil))) [3] (tName 3) (bYes) (mCall 2 g_l_draw (mCons (mV 0) (mCons (mV 2) (mNil))))) (mNil)) (on1 dTuple)))
def g_l_line : FS := fn 4 m_l_line

def N_l_eye : List Str := [("hand" : Str)]
def m_l_eye : MS :=
    sRet (mCall 2 g_l_some (mCons (mV 0) (mCons (mList (mCons (mC (.int 0)) (mCons (mC (.int 1)) (mCons (mC (.int 2)) (mCons (mCall 2 g_l_draw (mCons (mV 0) (mCons (mC (.int 20)) (mNil)))) (mCons (mCall 2 g_l_draw (mCons (mV 0) (mCons (mC (.int 1001)) (mNil)))) (mNil))))))) (mNil))))
def g_l_eye : FS := fn 1 m_l_eye

def N_l_hills : List Str := [("line" : Str), ("one" : Str), ("other" : Str), ("eye" : Str), ("way" : Str), ("found" : Str), ("place" : Str), ("begin" : Str), ("end" : Str), ("far" : Str)]
def m_l_hills : MS :=
    sSeq (sPar3 (7, false) (8, false) (9, false) (m2 (m2 (mV 0) (mV 1) dIx) (mV 3) dAdd) (m2 (mV 0) (mV 2) dIx) (mN (mCons (m2 (mV 2) (mV 1) dSub) (mNil)) (on1 dAbs)))
    (sSeq (sSet 4 (mIf (bT (m2 (mV 1) (mV 2) dLt)) (mLR2 (m2 (mV 1) (mC (.int 1)) dAdd) (mV 2)) (mLR3 (mCons (m2 (mV 1) (mC (.int 1)) dSub) (mCons (mV 2) (mCons (m1 (mC (.int 1)) dNeg) (mNil)))))))
    (sSeq (sOwn 5 (mList (mNil)))
    (sSeq (sFor (iSeq (mV 4)) (tName 6) (sIf (bT (m2 (m2 (m2 (mV 0) (mV 6) dIx) (mV 9) dMul) (m2 (m2 (mV 7) (mV 9) dMul) (m2 (m2 (mV 8) (mV 7) dSub) (mN (mCons (m2 (mV 6) (mV 1) dSub) (mNil)) (on1 dAbs)) dMul) dAdd) dGt)) (sExpr (mAppend 5 (mCons (mV 6) (mNil)))) (sPass)))
    (sRet (mV 5)))))
def g_l_hills : FS := fn 10 m_l_hills

def N_l_deep : List Str := [("thing" : Str), ("hand" : Str), ("turn" : Str)]
def m_l_deep : MS :=
    sSeq (sFor (iRange1 (mCons (mCall 2 g_l_draw (mCons (mV 1) (mCons (mC (.int 6)) (mNil)))) (mNil))) (tName 2) (sSet 0 (mIf (bT (m2 (mCall 2 g_l_draw (mCons (mV 1) (mCons (mC (.int 2)) (mNil)))) (mC (.int 0)) dEq)) (mList (mCons (mV 0) (mNil))) (mTup (mCons (mV 0) (mCons (mC (.str ("?" : Str))) (mNil)))))))
    (sRet (mV 0))
def g_l_deep : FS := fn 3 m_l_deep

def N_p_raw_sees : List Str := [("line" : Str), ("one" : Str), ("other" : Str), ("eye" : Str), ("mark" : Str), ("place" : Str), ("low" : Str), ("high" : Str), ("begin" : Str), ("end" : Str), ("far" : Str)]
def m_p_raw_sees : MS :=
    sSeq (sPar (6, false) (7, false) (mN (mCons (mV 1) (mCons (mV 2) (mNil))) dMin) (mN (mCons (mV 1) (mCons (mV 2) (mNil))) dMax))
    (sSeq (sPar (8, false) (9, false) (m2 (m2 (mV 0) (mV 1) dIx) (mV 3) dAdd) (m2 (m2 (mV 0) (mV 2) dIx) (mV 4) dAdd))
    (sSeq (sFor (iRange2 (mCons (m2 (mV 6) (mC (.int 1)) dAdd) (mCons (mV 7) (mNil)))) (tName 5) (sSeq (sSet 10 (mN (mCons (m2 (mV 5) (mV 1) dSub) (mNil)) (on1 dAbs)))
    (sIf (bT (m2 (m2 (m2 (mV 0) (mV 5) dIx) (m2 (mV 7) (mV 6) dSub) dMul) (m2 (m2 (mV 8) (m2 (m2 (mV 7) (mV 6) dSub) (mV 10) dSub) dMul) (m2 (mV 9) (mV 10) dMul) dAdd) dGt)) (sRet (mC (.bool false))) (sPass))))
    (sRet (mC (.bool true)))))
def g_p_raw_sees : FS := fn 11 m_p_raw_sees

def N_p_is_hidden_told : List Str := [("line" : Str), ("one" : Str), ("other" : Str), ("eye" : Str), ("thing" : Str), ("far" : Str), ("whole" : Str)]
def m_p_is_hidden_told : MS :=
    sSeq (sExpr (mCall 1 g_p_check_line (mCons (mV 0) (mNil))))
    (sSeq (sExpr (mCall 2 g_p_check_place (mCons (mV 0) (mCons (mV 1) (mNil)))))
    (sSeq (sExpr (mCall 2 g_p_check_place (mCons (mV 0) (mCons (mV 2) (mNil)))))
    (sSeq (sExpr (mCall 3 g_p_check_number (mCons (mV 3) (mCons (mC (.int 0)) (mCons (mC c_MOST_HIGH) (mNil))))))
    (sSeq (sIf (bOr (bNot (bT (mIsi (mV 4) dIsTuple))) (bOr (bT (m2 (mN (mCons (mV 4) (mNil)) (on1 dLen)) (mTup (mCons (mC (.int 1)) (mCons (mC (.int 2)) (mNil)))) (dInB true))) (bNot (bT (mIsi (m2 (mV 4) (mC (.int 0)) dIx) dIsStr))))) (sRet (mC (.bool false))) (sPass))
    (sSeq (sIf (bT (m2 (mN (mCons (mV 4) (mNil)) (on1 dLen)) (mC (.int 1)) dEq)) (sRet (mAndV (m2 (m2 (mV 4) (mC (.int 0)) dIx) (mC (.str ("seen" : Str))) dEq) (mCall 5 g_p_raw_sees (mCons (mV 0) (mCons (mV 1) (mCons (mV 2) (mCons (mV 3) (mCons (mC (.int 0)) (mNil))))))))) (sPass))
    (sSeq (sIf (bOr (bT (m2 (m2 (mV 4) (mC (.int 0)) dIx) (mC (.str ("hill" : Str))) dNe)) (bNot (bT (mCall 3 g_p_is_within (mCons (m2 (mV 4) (mC (.int 1)) dIx) (mCons (m2 (mN (mCons (mV 1) (mCons (mV 2) (mNil))) dMin) (mC (.int 1)) dAdd) (mCons (m2 (mN (mCons (mV 1) (mCons (mV 2) (mNil))) dMax) (mC (.int 1)) dSub) (mNil)))))))) (sRet (mC (.bool false))) (sPass))
    (sSeq (sPar (5, false) (6, false) (mN (mCons (m2 (m2 (mV 4) (mC (.int 1)) dIx) (mV 1) dSub) (mNil)) (on1 dAbs)) (mN (mCons (m2 (mV 2) (mV 1) dSub) (mNil)) (on1 dAbs)))
    (sRet (m2 (m2 (m2 (mV 0) (m2 (mV 4) (mC (.int 1)) dIx) dIx) (mV 6) dMul) (m2 (m2 (m2 (m2 (mV 0) (mV 1) dIx) (mV 3) dAdd) (m2 (mV 6) (mV 5) dSub) dMul) (m2 (m2 (mV 0) (mV 2) dIx) (mV 5) dMul) dAdd) dGt)))))))))
def g_p_is_hidden_told : FS := fn 7 m_p_is_hidden_told

def N_p_sees : List Str := [("line" : Str), ("one" : Str), ("other" : Str), ("eye" : Str)]
def m_p_sees : MS :=
    sSeq (sExpr (mCall 1 g_p_check_line (mCons (mV 0) (mNil))))
    (sSeq (sExpr (mCall 2 g_p_check_place (mCons (mV 0) (mCons (mV 1) (mNil)))))
    (sSeq (sExpr (mCall 2 g_p_check_place (mCons (mV 0) (mCons (mV 2) (mNil)))))
    (sSeq (sExpr (mCall 3 g_p_check_number (mCons (mV 3) (mCons (mC (.int 0)) (mCons (mC c_MOST_HIGH) (mNil))))))
    (sRet (mCall 5 g_p_raw_sees (mCons (mV 0) (mCons (mV 1) (mCons (mV 2) (mCons (mV 3) (mCons (mC (.int 0)) (mNil)))))))))))
def g_p_sees : FS := fn 4 m_p_sees

def N_l_right : List Str := [("hand" : Str), ("many" : Str), ("turn" : Str), ("line" : Str), ("eye" : Str), ("one" : Str), ("other" : Str), ("hills" : Str), ("due" : Str), ("place" : Str), ("low" : Str), ("some" : Str), ("odd" : Str), ("at" : Str), ("height" : Str)]
def m_l_right : MS :=
    sSeq (sTgt (tTup [tName 3, tName 4]) (mTup (mCons (mCall 2 g_l_line (mCons (mV 0) (mCons (mC (.int 12)) (mNil)))) (mCons (mCall 1 g_l_eye (mCons (mV 0) (mNil))) (mNil)))))
    (sSeq (sSet 1 (mN (mCons (mV 3) (mNil)) (on1 dLen)))
    (sSeq (sFor (iRange1 (mCons (mC (.int 4)) (mNil))) (tName 2) (sSeq (sTgt (tTup [tName 5, tName 6]) (mTup (mCons (mCall 2 g_l_draw (mCons (mV 0) (mCons (mV 1) (mNil)))) (mCons (mCall 2 g_l_draw (mCons (mV 0) (mCons (mV 1) (mNil)))) (mNil)))))
    (sIf (bT (m2 (mV 5) (mV 6) dNe)) (sSeq (sSet 7 (mCall 4 g_l_hills (mCons (mV 3) (mCons (mV 5) (mCons (mV 6) (mCons (mV 4) (mNil)))))))
    (sSeq (sSet 8 (mIf (bT (m2 (mN (mCons (mV 7) (mNil)) (on1 dLen)) (mC (.int 0)) dEq)) (mTup (mCons (mC (.str ("seen" : Str))) (mNil))) (mTup (mCons (mC (.str ("hill" : Str))) (mCons (m2 (mV 7) (mC (.int 0)) dIx) (mNil))))))
    (sSeq (sIf (bNot (bT (mCall 2 g_l_is (mCons (mList (mCons (mCall 4 g_p_hidden_told (mCons (mV 3) (mCons (mV 5) (mCons (mV 6) (mCons (mV 4) (mNil)))))) (mCons (mCall 4 g_p_sees (mCons (mV 3) (mCons (mV 5) (mCons (mV 6) (mCons (mV 4) (mNil)))))) (mNil)))) (mCons (mList (mCons (mV 8) (mCons (m2 (mN (mCons (mV 7) (mNil)) (on1 dLen)) (mC (.int 0)) dEq) (mNil)))) (mNil)))))) (sRet (mC (.bool false))) (sPass))
    (sSeq (sIf (bAnd (bT (m2 (mN (mCons (m2 (mV 5) (mV 6) dSub) (mNil)) (on1 dAbs)) (mC (.int 1)) dEq)) (bT (m2 (mN (mCons (mV 7) (mNil)) (on1 dLen)) (mC (.int 0)) dGt))) (sRet (mC (.bool false))) (sPass))
    (sSeq (sFor (iRange1 (mCons (mV 1) (mNil))) (tName 9) (sIf (bNot (bT (mCall 2 g_l_is (mCons (mCall 5 g_p_is_hidden_told (mCons (mV 3) (mCons (mV 5) (mCons (mV 6) (mCons (mV 4) (mCons (mTup (mCons (mC (.str ("hill" : Str))) (mCons (mV 9) (mNil)))) (mNil))))))) (mCons (m2 (mV 9) (mV 7) (dInB false)) (mNil)))))) (sRet (mC (.bool false))) (sPass)))
    (sSeq (sIf (bNot (bT (mCall 2 g_l_is (mCons (mCall 5 g_p_is_hidden_told (mCons (mV 3) (mCons (mV 5) (mCons (mV 6) (mCons (mV 4) (mCons (mTup (mCons (mC (.str ("seen" : Str))) (mNil))) (mNil))))))) (mCons (m2 (mN (mCons (mV 7) (mNil)) (on1 dLen)) (mC (.int 0)) dEq) (mNil)))))) (sRet (mC (.bool false))) (sPass))
    (sSeq (sSet 10 (mLc (iEnumA (mCons (mV 3) (mNil))) [13, 14] (tTup [tName 13, tName 14]) (bYes) (mIf (bT (m2 (mV 13) (mTup (mCons (mV 5) (mCons (mV 6) (mNil)))) (dInB true))) (mN (mCons (mV 14) (mCons (m2 (mV 3) (mV 6) dIx) (mNil))) dMin) (mV 14))))
    (sSeq (sIf (bAnd (bT (m2 (m2 (m2 (mV 3) (mV 5) dIx) (mV 4) dAdd) (m2 (mV 3) (mV 6) dIx) dGe)) (bT (m2 (mCall 4 g_p_hidden_told (mCons (mN (mCons (mV 10) (mNil)) (on1 dTuple)) (mCons (mV 5) (mCons (mV 6) (mCons (mV 4) (mNil)))))) (mTup (mCons (mC (.str ("seen" : Str))) (mNil))) dNe))) (sRet (mC (.bool false))) (sPass))
    (sSeq (sSet 11 (mList (mCons (mC (.str ("?" : Str))) (mCons (mC .none) (mCons (mC (.int 0)) (mCons (mTup (mNil)) (mCons (mList (mCons (mC (.str ("seen" : Str))) (mNil))) (mCons (mTup (mCons (mC (.str ("seen" : Str))) (mCons (mC (.int 0)) (mNil)))) (mCons (mTup (mCons (mC (.str ("hill" : Str))) (mNil))) (mCons (mTup (mCons (mC (.str ("hill" : Str))) (mCons (mV 1) (mNil)))) (mCons (mTup (mCons (mC (.str ("hill" : Str))) (mCons (m1 (mC (.int 1)) dNeg) (mNil)))) (mCons (mTup (mCons (mC (.str ("?" : Str))) (mCons (mC (.int 0)) (mNil)))) (mCons (mDict0) (mNil))))))))))))))
    (sSeq (sSet 12 (mCall 2 g_l_deep (mCons (mCall 2 g_l_some (mCons (mV 0) (mCons (mV 11) (mNil)))) (mCons (mV 0) (mNil)))))
    (sIf (bNot (bT (mCall 2 g_l_is (mCons (mCall 5 g_p_is_hidden_told (mCons (mV 3) (mCons (mV 5) (mCons (mV 6) (mCons (mV 4) (mCons (mV 12) (mNil))))))) (mCons (mC (.bool false)) (mNil)))))) (sRet (mC (.bool false))) (sPass)))))))))))) (sPass))))
    (sRet (mC (.bool true)))))
def g_l_right : FS := fn 15 m_l_right

def N_law_main : List Str := [("script" : Str), ("hand" : Str), ("line" : Str), ("own_said" : Str), ("bad" : Str), ("far" : Str), ("eye" : Str), ("turn" : Str)]
def m_law_main : MS :=
    sSeq (sOwn 1 (mCall 1 g_l_hand (mCons (mV 0) (mNil))))
    (sSeq (sIf (bNot (bT (mN (mCons (mLc (iRange1 (mCons (mC (.int 4)) (mNil))) [7] (tName 7) (bYes) (mCall 1 g_l_right (mCons (mV 1) (mNil)))) (mNil)) (on1 dAll)))) (sRet (mC (.bool false))) (sPass))
    (sSeq (sTgt (tTup [tName 4, tName 5, tName 6]) (mTup (mCons (mCall 1 g_l_no_line (mCons (mV 1) (mNil))) (mCons (mCall 2 g_l_no_place (mCons (mV 1) (mCons (mC (.int 3)) (mNil)))) (mCons (mCall 1 g_l_no_eye (mCons (mV 1) (mNil))) (mNil))))))
    (sSeq (sIf (bNot (bT (mIsX xnames (fun c => decide (c = ("NoLine" : Str))) (mTold 2 (mCall 4 g_p_hidden_told (mCons (mV 4) (mCons (mV 5) (mCons (mV 5) (mCons (mV 6) (mNil)))))) t_told)))) (sRet (mC (.bool false))) (sPass))
    (sSeq (sIf (bNot (bT (mIsX xnames (fun c => decide (c = ("NoNumber" : Str))) (mTold 2 (mCall 4 g_p_hidden_told (mCons (mTup (mCons (mC (.int 1)) (mCons (mC (.int 2)) (mCons (mC (.int 3)) (mNil))))) (mCons (mV 5) (mCons (mC (.int 1)) (mCons (mV 6) (mNil)))))) t_told)))) (sRet (mC (.bool false))) (sPass))
    (sSeq (sIf (bNot (bT (mIsX xnames (fun c => decide (c = ("NoNumber" : Str))) (mTold 2 (mCall 4 g_p_hidden_told (mCons (mTup (mCons (mC (.int 1)) (mCons (mC (.int 2)) (mCons (mC (.int 3)) (mNil))))) (mCons (mC (.int 0)) (mCons (mV 5) (mCons (mV 6) (mNil)))))) t_told)))) (sRet (mC (.bool false))) (sPass))
    (sSeq (sIf (bNot (bT (mIsX xnames (fun c => decide (c = ("NoNumber" : Str))) (mTold 2 (mCall 4 g_p_hidden_told (mCons (mTup (mCons (mC (.int 1)) (mCons (mC (.int 2)) (mCons (mC (.int 3)) (mNil))))) (mCons (mC (.int 0)) (mCons (mC (.int 2)) (mCons (mV 6) (mNil)))))) t_told)))) (sRet (mC (.bool false))) (sPass))
    (sSeq (sIf (bNot (bT (mIsX xnames (fun c => decide (c = ("NoLine" : Str))) (mTold 2 (mCall 5 g_p_is_hidden_told (mCons (mV 4) (mCons (mC (.int 0)) (mCons (mC (.int 1)) (mCons (mC (.int 1)) (mCons (mC .none) (mNil))))))) t_told)))) (sRet (mC (.bool false))) (sPass))
    (sSeq (sSet 2 (mTup (mCons (mC (.int 0)) (mCons (mC (.int 3)) (mCons (mC (.int 9)) (mCons (mC (.int 1)) (mNil)))))))
    (sSeq (sOwn 3 (mList (mCons (mCall 4 g_p_hidden_told (mCons (mV 2) (mCons (mC (.int 0)) (mCons (mC (.int 3)) (mCons (mC (.int 2)) (mNil)))))) (mCons (mCall 4 g_p_hidden_told (mCons (mV 2) (mCons (mC (.int 3)) (mCons (mC (.int 0)) (mCons (mC (.int 1)) (mNil)))))) (mCons (mCall 4 g_p_hidden_told (mCons (mV 2) (mCons (mC (.int 0)) (mCons (mC (.int 2)) (mCons (mC (.int 0)) (mNil)))))) (mNil))))))
    (sSeq (sExpr (mAppend 3 (mCons (mCall 4 g_p_hidden_told (mCons (mTup (mCons (mC (.int 5)) (mCons (mC (.int 5)) (mCons (mC (.int 5)) (mNil))))) (mCons (mC (.int 0)) (mCons (mC (.int 2)) (mCons (mC (.int 0)) (mNil)))))) (mNil))))
    (sRet (mCall 2 g_l_is (mCons (mMv 3) (mCons (mList (mCons (mTup (mCons (mC (.str ("hill" : Str))) (mCons (mC (.int 1)) (mNil)))) (mCons (mTup (mCons (mC (.str ("hill" : Str))) (mCons (mC (.int 2)) (mNil)))) (mCons (mTup (mCons (mC (.str ("seen" : Str))) (mNil))) (mCons (mTup (mCons (mC (.str ("seen" : Str))) (mNil))) (mNil)))))) (mNil)))))))))))))))
def g_law_main : FS := fn 8 m_law_main

end LW

namespace LW
open PySem PD
@[simp] abbrev V_l_hand (script from_script cell : Option SV := none) : PD.Env := [script, from_script, cell]
def k_l_hand_1c1 : ME := mLc (iSeq (mSlice (mV 0) (oNone) (oSome (mC (.int 63))))) [2] (tName 2) (bYes) (mN (mCons (mN (mCons (mV 2) (mNil)) (on1 dInt)) (mNil)) (on1 dAbs))
def k_l_hand_2 : MS := sRet (mList (mCons (mV 1) (mCons (mC (.int 0)) (mCons (mC (.int 0)) (mCons (m2 (mC (.int 397)) (m2 (mC (.int 157)) (mN (mCons (mV 1) (mNil)) (on1 dLen)) dMul) dAdd) (mCons (mC (.int 0)) (mNil)))))))
def k_l_hand_1 : MS := sSeq (sSet 1 (k_l_hand_1c1)) k_l_hand_2
theorem eq_l_hand : m_l_hand = k_l_hand_1 := rfl
theorem go_l_hand {a0 : D} {r : D} (h : Rets r (k_l_hand_1 (V_l_hand (some (.dat a0))))) : Ev g_l_hand [a0] r := Ev_go eq_l_hand h
theorem goO_l_hand {a0 : D} {r : D} (h : RetsO r (k_l_hand_1 (V_l_hand (some (.dat a0))))) : EvO g_l_hand [a0] r := EvO_go eq_l_hand h
theorem goX_l_hand {a0 : D} {x : Str} (h : Raises x (k_l_hand_1 (V_l_hand (some (.dat a0))))) : EvX g_l_hand [a0] x := EvX_go eq_l_hand h
theorem goN_l_hand {a0 : D} (h : Ends (k_l_hand_1 (V_l_hand (some (.dat a0))))) : Ev g_l_hand [a0] .none := EvN_go eq_l_hand h
@[simp] abbrev V_l_is (mine yours : Option SV := none) : PD.Env := [mine, yours]
def k_l_is_1 : MS := sRet (m2 (mN (mCons (mV 0) (mNil)) (on1 dRepr)) (mN (mCons (mV 1) (mNil)) (on1 dRepr)) dEq)
theorem eq_l_is : m_l_is = k_l_is_1 := rfl
theorem go_l_is {a0 a1 : D} {r : D} (h : Rets r (k_l_is_1 (V_l_is (some (.dat a0)) (some (.dat a1))))) : Ev g_l_is [a0, a1] r := Ev_go eq_l_is h
theorem goO_l_is {a0 a1 : D} {r : D} (h : RetsO r (k_l_is_1 (V_l_is (some (.dat a0)) (some (.dat a1))))) : EvO g_l_is [a0, a1] r := EvO_go eq_l_is h
theorem goX_l_is {a0 a1 : D} {x : Str} (h : Raises x (k_l_is_1 (V_l_is (some (.dat a0)) (some (.dat a1))))) : EvX g_l_is [a0, a1] x := EvX_go eq_l_is h
theorem goN_l_is {a0 a1 : D} (h : Ends (k_l_is_1 (V_l_is (some (.dat a0)) (some (.dat a1))))) : Ev g_l_is [a0, a1] .none := EvN_go eq_l_is h
@[simp] abbrev V_l_draw (hand many number cell digit : Option SV := none) : PD.Env := [hand, many, number, cell, digit]
def k_l_draw_1t_4 : MS := sIf (bT (m2 (mV 3) (m2 (mC (.int 10)) (mC (.int 18)) dPow) dGe)) (sSetIx 0 (mC (.int 2)) (mV 3)) (sPass)
def k_l_draw_1t_3 : MS := sSeq (sSetIx 0 (mC (.int 3)) (m2 (mN (mCons (m2 (m2 (m2 (m2 (mV 0) (mC (.int 3)) dIx) (mC (.int 69621)) dMul) (m2 (mV 3) (mC (.int 48271)) dMul) dAdd) (mC (.int 17)) dAdd) (mNil)) (on1 dInt)) (mC (.int 2147483629)) dMod)) k_l_draw_1t_4
def k_l_draw_1t_2 : MS := sSeq (sSetIx 0 (mC (.int 1)) (m2 (m2 (mV 0) (mC (.int 1)) dIx) (mC (.int 1)) dAdd)) k_l_draw_1t_3
def k_l_draw_1t_1 : MS := sSeq (sSet 3 (m2 (m2 (mV 0) (mC (.int 0)) dIx) (m2 (mV 0) (mC (.int 1)) dIx) dIx)) k_l_draw_1t_2
def k_l_draw_2t_3 : MS := sRet (mV 4)
def k_l_draw_2t_2 : MS := sSeq (sSetIx 0 (mC (.int 2)) (m2 (m2 (mV 0) (mC (.int 2)) dIx) (mV 1) dDiv)) k_l_draw_2t_3
def k_l_draw_2t_1 : MS := sSeq (sSet 4 (m2 (mN (mCons (m2 (mV 0) (mC (.int 2)) dIx) (mNil)) (on1 dInt)) (mV 1) dMod)) k_l_draw_2t_2
def k_l_draw_7 : MS := sRet (m2 (mN (mCons (m2 (mV 2) (mC (.int 16)) dDiv) (mNil)) (on1 dInt)) (mV 1) dMod)
def k_l_draw_6 : MS := sSeq (sSet 2 (m2 (mN (mCons (m2 (mV 2) (m2 (m2 (mV 2) (mC (.int 2003)) dDiv) (mC (.int 40014)) dAdd) dMul) (mNil)) (on1 dInt)) (mC (.int 2147483563)) dMod)) k_l_draw_7
def k_l_draw_5 : MS := sSeq (sSet 2 (m2 (mN (mCons (m2 (mV 2) (m2 (m2 (mV 2) (mC (.int 1009)) dDiv) (mC (.int 69621)) dAdd) dMul) (mNil)) (on1 dInt)) (mC (.int 2147483647)) dMod)) k_l_draw_6
def k_l_draw_4 : MS := sSeq (sSet 2 (m2 (mN (mCons (m2 (mN (mCons (m2 (m2 (mV 0) (mC (.int 3)) dIx) (m2 (mC (.int 7919)) (m2 (mV 0) (mC (.int 4)) dIx) dMul) dAdd) (mNil)) (on1 dInt)) (mC (.int 40692)) dMul) (mNil)) (on1 dInt)) (mC (.int 2147483647)) dMod)) k_l_draw_5
def k_l_draw_3 : MS := sSeq (sSetIx 0 (mC (.int 4)) (m2 (m2 (mV 0) (mC (.int 4)) dIx) (mC (.int 1)) dAdd)) k_l_draw_4
def k_l_draw_2 : MS := sSeq (sIf (bT (m2 (m2 (mV 0) (mC (.int 2)) dIx) (mC (.int 0)) dGt)) (k_l_draw_2t_1) (sPass)) k_l_draw_3
def k_l_draw_1 : MS := sSeq (sIf (bAnd (bT (m2 (m2 (mV 0) (mC (.int 2)) dIx) (mC (.int 0)) dEq)) (bT (m2 (m2 (mV 0) (mC (.int 1)) dIx) (mN (mCons (m2 (mV 0) (mC (.int 0)) dIx) (mNil)) (on1 dLen)) dLt))) (k_l_draw_1t_1) (sPass)) k_l_draw_2
theorem eq_l_draw : m_l_draw = k_l_draw_1 := rfl
theorem goP_l_draw {a1 : D} {r : D} {hh h' : List D} (h : RetsP r h' (k_l_draw_1 (V_l_draw (some (.par (.list hh))) (some (.dat a1))))) : EvP g_l_draw hh [a1] (.dat r) h' := EvP_go eq_l_draw h
theorem goPO_l_draw {a1 : D} {r : D} {hh h' : List D} (h : RetsPO r h' (k_l_draw_1 (V_l_draw (some (.par (.list hh))) (some (.dat a1))))) : EvP g_l_draw hh [a1] (.own r) h' := EvPO_go eq_l_draw h
@[simp] abbrev V_l_some (hand things : Option SV := none) : PD.Env := [hand, things]
def k_l_some_1 : MS := sRet (m2 (mV 1) (mCall 2 g_l_draw (mCons (mV 0) (mCons (mN (mCons (mV 1) (mNil)) (on1 dLen)) (mNil)))) dIx)
theorem eq_l_some : m_l_some = k_l_some_1 := rfl
theorem goP_l_some {a1 : D} {r : D} {hh h' : List D} (h : RetsP r h' (k_l_some_1 (V_l_some (some (.par (.list hh))) (some (.dat a1))))) : EvP g_l_some hh [a1] (.dat r) h' := EvP_go eq_l_some h
theorem goPO_l_some {a1 : D} {r : D} {hh h' : List D} (h : RetsPO r h' (k_l_some_1 (V_l_some (some (.par (.list hh))) (some (.dat a1))))) : EvP g_l_some hh [a1] (.own r) h' := EvPO_go eq_l_some h
@[simp] abbrev V_l_no_line (hand some : Option SV := none) : PD.Env := [hand, some]
def k_l_no_line_2 : MS := sRet (mCall 2 g_l_some (mCons (mV 0) (mCons (mV 1) (mNil))))
def k_l_no_line_1 : MS := sSeq (sSet 1 (mList (mCons (mC (.str ("?" : Str))) (mCons (mC .none) (mCons (mC (.int 0)) (mCons (mTup (mNil)) (mCons (mTup (mCons (mC (.int 1)) (mNil))) (mCons (mList (mCons (mC (.int 1)) (mCons (mC (.int 2)) (mNil)))) (mCons (mTup (mCons (mC (.int 1)) (mCons (mC (.int 1001)) (mNil)))) (mCons (mTup (mCons (m1 (mC (.int 1)) dNeg) (mCons (mC (.int 2)) (mNil)))) (mCons (mTup (mCons (mC (.bool true)) (mCons (mC (.int 2)) (mNil)))) (mCons (m2 (mTup (mCons (mC (.int 0)) (mNil))) (mC (.int 25)) dMul) (mCons (mTup (mCons (mC (.str ("1" : Str))) (mCons (mC (.int 2)) (mNil)))) (mCons (mDict0) (mNil))))))))))))))) k_l_no_line_2
theorem eq_l_no_line : m_l_no_line = k_l_no_line_1 := rfl
theorem goP_l_no_line {r : D} {hh h' : List D} (h : RetsP r h' (k_l_no_line_1 (V_l_no_line (some (.par (.list hh))) ))) : EvP g_l_no_line hh [] (.dat r) h' := EvP_go eq_l_no_line h
theorem goPO_l_no_line {r : D} {hh h' : List D} (h : RetsPO r h' (k_l_no_line_1 (V_l_no_line (some (.par (.list hh))) ))) : EvP g_l_no_line hh [] (.own r) h' := EvPO_go eq_l_no_line h
@[simp] abbrev V_l_no_place (hand many : Option SV := none) : PD.Env := [hand, many]
def k_l_no_place_1 : MS := sRet (mCall 2 g_l_some (mCons (mV 0) (mCons (mList (mCons (mC (.str ("?" : Str))) (mCons (mC .none) (mCons (m1 (mC (.int 1)) dNeg) (mCons (mV 1) (mCons (mC (.bool true)) (mCons (mTup (mCons (mC (.int 0)) (mNil))) (mNil)))))))) (mNil))))
theorem eq_l_no_place : m_l_no_place = k_l_no_place_1 := rfl
theorem goP_l_no_place {a1 : D} {r : D} {hh h' : List D} (h : RetsP r h' (k_l_no_place_1 (V_l_no_place (some (.par (.list hh))) (some (.dat a1))))) : EvP g_l_no_place hh [a1] (.dat r) h' := EvP_go eq_l_no_place h
theorem goPO_l_no_place {a1 : D} {r : D} {hh h' : List D} (h : RetsPO r h' (k_l_no_place_1 (V_l_no_place (some (.par (.list hh))) (some (.dat a1))))) : EvP g_l_no_place hh [a1] (.own r) h' := EvPO_go eq_l_no_place h
@[simp] abbrev V_l_no_eye (hand : Option SV := none) : PD.Env := [hand]
def k_l_no_eye_1 : MS := sRet (mCall 2 g_l_some (mCons (mV 0) (mCons (mList (mCons (mC (.str ("?" : Str))) (mCons (mC .none) (mCons (m1 (mC (.int 1)) dNeg) (mCons (mC (.int 1001)) (mCons (mC (.bool true)) (mCons (mTup (mCons (mC (.int 1)) (mNil))) (mNil)))))))) (mNil))))
theorem eq_l_no_eye : m_l_no_eye = k_l_no_eye_1 := rfl
theorem goP_l_no_eye {r : D} {hh h' : List D} (h : RetsP r h' (k_l_no_eye_1 (V_l_no_eye (some (.par (.list hh))) ))) : EvP g_l_no_eye hh [] (.dat r) h' := EvP_go eq_l_no_eye h
theorem goPO_l_no_eye {r : D} {hh h' : List D} (h : RetsPO r h' (k_l_no_eye_1 (V_l_no_eye (some (.par (.list hh))) ))) : EvP g_l_no_eye hh [] (.own r) h' := EvPO_go eq_l_no_eye h
@[simp] abbrev V_p_is_sized (thing least most : Option SV := none) : PD.Env := [thing, least, most]
def k_p_is_sized_1 : MS := sRet (mAndV (mIsi (mV 0) dIsTuple) (mChain dLe dLe (mV 1) (mN (mCons (mV 0) (mNil)) (on1 dLen)) (mV 2)))
theorem eq_p_is_sized : m_p_is_sized = k_p_is_sized_1 := rfl
theorem go_p_is_sized {a0 a1 a2 : D} {r : D} (h : Rets r (k_p_is_sized_1 (V_p_is_sized (some (.dat a0)) (some (.dat a1)) (some (.dat a2))))) : Ev g_p_is_sized [a0, a1, a2] r := Ev_go eq_p_is_sized h
theorem goO_p_is_sized {a0 a1 a2 : D} {r : D} (h : RetsO r (k_p_is_sized_1 (V_p_is_sized (some (.dat a0)) (some (.dat a1)) (some (.dat a2))))) : EvO g_p_is_sized [a0, a1, a2] r := EvO_go eq_p_is_sized h
theorem goX_p_is_sized {a0 a1 a2 : D} {x : Str} (h : Raises x (k_p_is_sized_1 (V_p_is_sized (some (.dat a0)) (some (.dat a1)) (some (.dat a2))))) : EvX g_p_is_sized [a0, a1, a2] x := EvX_go eq_p_is_sized h
theorem goN_p_is_sized {a0 a1 a2 : D} (h : Ends (k_p_is_sized_1 (V_p_is_sized (some (.dat a0)) (some (.dat a1)) (some (.dat a2))))) : Ev g_p_is_sized [a0, a1, a2] .none := EvN_go eq_p_is_sized h
@[simp] abbrev V_p_is_integer (thing : Option SV := none) : PD.Env := [thing]
def k_p_is_integer_1 : MS := sRet (mAndV (mIsi (mV 0) dIsInt) (mNotV (mIsi (mV 0) dIsBool)))
theorem eq_p_is_integer : m_p_is_integer = k_p_is_integer_1 := rfl
theorem go_p_is_integer {a0 : D} {r : D} (h : Rets r (k_p_is_integer_1 (V_p_is_integer (some (.dat a0))))) : Ev g_p_is_integer [a0] r := Ev_go eq_p_is_integer h
theorem goO_p_is_integer {a0 : D} {r : D} (h : RetsO r (k_p_is_integer_1 (V_p_is_integer (some (.dat a0))))) : EvO g_p_is_integer [a0] r := EvO_go eq_p_is_integer h
theorem goX_p_is_integer {a0 : D} {x : Str} (h : Raises x (k_p_is_integer_1 (V_p_is_integer (some (.dat a0))))) : EvX g_p_is_integer [a0] x := EvX_go eq_p_is_integer h
theorem goN_p_is_integer {a0 : D} (h : Ends (k_p_is_integer_1 (V_p_is_integer (some (.dat a0))))) : Ev g_p_is_integer [a0] .none := EvN_go eq_p_is_integer h
@[simp] abbrev V_p_is_within (thing least most : Option SV := none) : PD.Env := [thing, least, most]
def k_p_is_within_1 : MS := sRet (mAndV (mCall 1 g_p_is_integer (mCons (mV 0) (mNil))) (mChain dLe dLe (mV 1) (mV 0) (mV 2)))
theorem eq_p_is_within : m_p_is_within = k_p_is_within_1 := rfl
theorem go_p_is_within {a0 a1 a2 : D} {r : D} (h : Rets r (k_p_is_within_1 (V_p_is_within (some (.dat a0)) (some (.dat a1)) (some (.dat a2))))) : Ev g_p_is_within [a0, a1, a2] r := Ev_go eq_p_is_within h
theorem goO_p_is_within {a0 a1 a2 : D} {r : D} (h : RetsO r (k_p_is_within_1 (V_p_is_within (some (.dat a0)) (some (.dat a1)) (some (.dat a2))))) : EvO g_p_is_within [a0, a1, a2] r := EvO_go eq_p_is_within h
theorem goX_p_is_within {a0 a1 a2 : D} {x : Str} (h : Raises x (k_p_is_within_1 (V_p_is_within (some (.dat a0)) (some (.dat a1)) (some (.dat a2))))) : EvX g_p_is_within [a0, a1, a2] x := EvX_go eq_p_is_within h
theorem goN_p_is_within {a0 a1 a2 : D} (h : Ends (k_p_is_within_1 (V_p_is_within (some (.dat a0)) (some (.dat a1)) (some (.dat a2))))) : Ev g_p_is_within [a0, a1, a2] .none := EvN_go eq_p_is_within h
@[simp] abbrev V_p_is_line (thing one : Option SV := none) : PD.Env := [thing, one]
def k_p_is_line_1c1 : ME := mLc (iSeq (mV 0)) [1] (tName 1) (bYes) (mCall 3 g_p_is_within (mCons (mV 1) (mCons (mC (.int 0)) (mCons (mC c_MOST_HIGH) (mNil)))))
def k_p_is_line_1 : MS := sRet (mAndV (mCall 3 g_p_is_sized (mCons (mV 0) (mCons (mC (.int 2)) (mCons (mC c_MOST_PLACES) (mNil))))) (mN (mCons (k_p_is_line_1c1) (mNil)) (on1 dAll)))
theorem eq_p_is_line : m_p_is_line = k_p_is_line_1 := rfl
theorem go_p_is_line {a0 : D} {r : D} (h : Rets r (k_p_is_line_1 (V_p_is_line (some (.dat a0))))) : Ev g_p_is_line [a0] r := Ev_go eq_p_is_line h
theorem goO_p_is_line {a0 : D} {r : D} (h : RetsO r (k_p_is_line_1 (V_p_is_line (some (.dat a0))))) : EvO g_p_is_line [a0] r := EvO_go eq_p_is_line h
theorem goX_p_is_line {a0 : D} {x : Str} (h : Raises x (k_p_is_line_1 (V_p_is_line (some (.dat a0))))) : EvX g_p_is_line [a0] x := EvX_go eq_p_is_line h
theorem goN_p_is_line {a0 : D} (h : Ends (k_p_is_line_1 (V_p_is_line (some (.dat a0))))) : Ev g_p_is_line [a0] .none := EvN_go eq_p_is_line h
@[simp] abbrev V_p_check_line (thing : Option SV := none) : PD.Env := [thing]
def k_p_check_line_1 : MS := sIf (bNot (bT (mCall 1 g_p_is_line (mCons (mV 0) (mNil))))) (sRaise ("NoLine" : Str)) (sPass)
theorem eq_p_check_line : m_p_check_line = k_p_check_line_1 := rfl
theorem go_p_check_line {a0 : D} {r : D} (h : Rets r (k_p_check_line_1 (V_p_check_line (some (.dat a0))))) : Ev g_p_check_line [a0] r := Ev_go eq_p_check_line h
theorem goO_p_check_line {a0 : D} {r : D} (h : RetsO r (k_p_check_line_1 (V_p_check_line (some (.dat a0))))) : EvO g_p_check_line [a0] r := EvO_go eq_p_check_line h
theorem goX_p_check_line {a0 : D} {x : Str} (h : Raises x (k_p_check_line_1 (V_p_check_line (some (.dat a0))))) : EvX g_p_check_line [a0] x := EvX_go eq_p_check_line h
theorem goN_p_check_line {a0 : D} (h : Ends (k_p_check_line_1 (V_p_check_line (some (.dat a0))))) : Ev g_p_check_line [a0] .none := EvN_go eq_p_check_line h
@[simp] abbrev V_p_check_number (thing least most : Option SV := none) : PD.Env := [thing, least, most]
def k_p_check_number_1 : MS := sIf (bNot (bT (mCall 3 g_p_is_within (mCons (mV 0) (mCons (mV 1) (mCons (mV 2) (mNil))))))) (sRaise ("NoNumber" : Str)) (sPass)
theorem eq_p_check_number : m_p_check_number = k_p_check_number_1 := rfl
theorem go_p_check_number {a0 a1 a2 : D} {r : D} (h : Rets r (k_p_check_number_1 (V_p_check_number (some (.dat a0)) (some (.dat a1)) (some (.dat a2))))) : Ev g_p_check_number [a0, a1, a2] r := Ev_go eq_p_check_number h
theorem goO_p_check_number {a0 a1 a2 : D} {r : D} (h : RetsO r (k_p_check_number_1 (V_p_check_number (some (.dat a0)) (some (.dat a1)) (some (.dat a2))))) : EvO g_p_check_number [a0, a1, a2] r := EvO_go eq_p_check_number h
theorem goX_p_check_number {a0 a1 a2 : D} {x : Str} (h : Raises x (k_p_check_number_1 (V_p_check_number (some (.dat a0)) (some (.dat a1)) (some (.dat a2))))) : EvX g_p_check_number [a0, a1, a2] x := EvX_go eq_p_check_number h
theorem goN_p_check_number {a0 a1 a2 : D} (h : Ends (k_p_check_number_1 (V_p_check_number (some (.dat a0)) (some (.dat a1)) (some (.dat a2))))) : Ev g_p_check_number [a0, a1, a2] .none := EvN_go eq_p_check_number h
@[simp] abbrev V_p_check_place (line place : Option SV := none) : PD.Env := [line, place]
def k_p_check_place_1 : MS := sExpr (mCall 3 g_p_check_number (mCons (mV 1) (mCons (mC (.int 0)) (mCons (m2 (mN (mCons (mV 0) (mNil)) (on1 dLen)) (mC (.int 1)) dSub) (mNil)))))
theorem eq_p_check_place : m_p_check_place = k_p_check_place_1 := rfl
theorem go_p_check_place {a0 a1 : D} {r : D} (h : Rets r (k_p_check_place_1 (V_p_check_place (some (.dat a0)) (some (.dat a1))))) : Ev g_p_check_place [a0, a1] r := Ev_go eq_p_check_place h
theorem goO_p_check_place {a0 a1 : D} {r : D} (h : RetsO r (k_p_check_place_1 (V_p_check_place (some (.dat a0)) (some (.dat a1))))) : EvO g_p_check_place [a0, a1] r := EvO_go eq_p_check_place h
theorem goX_p_check_place {a0 a1 : D} {x : Str} (h : Raises x (k_p_check_place_1 (V_p_check_place (some (.dat a0)) (some (.dat a1))))) : EvX g_p_check_place [a0, a1] x := EvX_go eq_p_check_place h
theorem goN_p_check_place {a0 a1 : D} (h : Ends (k_p_check_place_1 (V_p_check_place (some (.dat a0)) (some (.dat a1))))) : Ev g_p_check_place [a0, a1] .none := EvN_go eq_p_check_place h
@[simp] abbrev V_p_hidden_told (line one other eye step whole far place : Option SV := none) : PD.Env := [line, one, other, eye, step, whole, far, place]
def k_p_hidden_told_7b_2 : MS := sIf (bT (m2 (m2 (m2 (mV 0) (mV 7) dIx) (mV 5) dMul) (m2 (m2 (m2 (m2 (mV 0) (mV 1) dIx) (mV 3) dAdd) (m2 (mV 5) (mV 6) dSub) dMul) (m2 (m2 (mV 0) (mV 2) dIx) (mV 6) dMul) dAdd) dGt)) (sRet (mTup (mCons (mC (.str ("hill" : Str))) (mCons (mV 7) (mNil))))) (sPass)
def k_p_hidden_told_7b_1 : MS := sSeq (sSet 7 (m2 (mV 1) (m2 (mV 4) (mV 6) dMul) dAdd)) k_p_hidden_told_7b_2
def k_p_hidden_told_8 : MS := sRet (mTup (mCons (mC (.str ("seen" : Str))) (mNil)))
def k_p_hidden_told_7 : MS := sSeq (sFor (iRange2 (mCons (mC (.int 1)) (mCons (mV 5) (mNil)))) (tName 6) (k_p_hidden_told_7b_1)) k_p_hidden_told_8
def k_p_hidden_told_6 : MS := sSeq (sSet 5 (mN (mCons (m2 (mV 2) (mV 1) dSub) (mNil)) (on1 dAbs))) k_p_hidden_told_7
def k_p_hidden_told_5 : MS := sSeq (sSet 4 (mIf (bT (m2 (mV 2) (mV 1) dGt)) (mC (.int 1)) (m1 (mC (.int 1)) dNeg))) k_p_hidden_told_6
def k_p_hidden_told_4 : MS := sSeq (sExpr (mCall 3 g_p_check_number (mCons (mV 3) (mCons (mC (.int 0)) (mCons (mC c_MOST_HIGH) (mNil)))))) k_p_hidden_told_5
def k_p_hidden_told_3 : MS := sSeq (sExpr (mCall 2 g_p_check_place (mCons (mV 0) (mCons (mV 2) (mNil))))) k_p_hidden_told_4
def k_p_hidden_told_2 : MS := sSeq (sExpr (mCall 2 g_p_check_place (mCons (mV 0) (mCons (mV 1) (mNil))))) k_p_hidden_told_3
def k_p_hidden_told_1 : MS := sSeq (sExpr (mCall 1 g_p_check_line (mCons (mV 0) (mNil)))) k_p_hidden_told_2
theorem eq_p_hidden_told : m_p_hidden_told = k_p_hidden_told_1 := rfl
theorem go_p_hidden_told {a0 a1 a2 a3 : D} {r : D} (h : Rets r (k_p_hidden_told_1 (V_p_hidden_told (some (.dat a0)) (some (.dat a1)) (some (.dat a2)) (some (.dat a3))))) : Ev g_p_hidden_told [a0, a1, a2, a3] r := Ev_go eq_p_hidden_told h
theorem goO_p_hidden_told {a0 a1 a2 a3 : D} {r : D} (h : RetsO r (k_p_hidden_told_1 (V_p_hidden_told (some (.dat a0)) (some (.dat a1)) (some (.dat a2)) (some (.dat a3))))) : EvO g_p_hidden_told [a0, a1, a2, a3] r := EvO_go eq_p_hidden_told h
theorem goX_p_hidden_told {a0 a1 a2 a3 : D} {x : Str} (h : Raises x (k_p_hidden_told_1 (V_p_hidden_told (some (.dat a0)) (some (.dat a1)) (some (.dat a2)) (some (.dat a3))))) : EvX g_p_hidden_told [a0, a1, a2, a3] x := EvX_go eq_p_hidden_told h
theorem goN_p_hidden_told {a0 a1 a2 a3 : D} (h : Ends (k_p_hidden_told_1 (V_p_hidden_told (some (.dat a0)) (some (.dat a1)) (some (.dat a2)) (some (.dat a3))))) : Ev g_p_hidden_told [a0, a1, a2, a3] .none := EvN_go eq_p_hidden_told h
@[simp] abbrev V_l_error (call error : Option SV := none) : PD.Env := [call, error]
@[simp] abbrev V_l_line (hand most wide place : Option SV := none) : PD.Env := [hand, most, wide, place]
def k_l_line_2c1 : ME := mLc (iRange1 (mCons (m2 (mC (.int 2)) (mCall 2 g_l_draw (mCons (mV 0) (mCons (m2 (mV 1) (mC (.int 1)) dSub) (mNil)))) dAdd) (mNil))) [3] (tName 3) (bYes) (mCall 2 g_l_draw (mCons (mV 0) (mCons (mV 2) (mNil))))
def k_l_line_2 : MS := sRet (mN (mCons (k_l_line_2c1) (mNil)) (on1 dTuple))
def k_l_line_1 : MS := sSeq (sSet 2 (mCall 2 g_l_some (mCons (mV 0) (mCons (mList (mCons (mC (.int 2)) (mCons (mC (.int 5)) (mCons (mC (.int 12)) (mCons (mC (.int 1001)) (mNil)))))) (mNil))))) k_l_line_2
theorem eq_l_line : m_l_line = k_l_line_1 := rfl
theorem goP_l_line {a1 : D} {r : D} {hh h' : List D} (h : RetsP r h' (k_l_line_1 (V_l_line (some (.par (.list hh))) (some (.dat a1))))) : EvP g_l_line hh [a1] (.dat r) h' := EvP_go eq_l_line h
theorem goPO_l_line {a1 : D} {r : D} {hh h' : List D} (h : RetsPO r h' (k_l_line_1 (V_l_line (some (.par (.list hh))) (some (.dat a1))))) : EvP g_l_line hh [a1] (.own r) h' := EvPO_go eq_l_line h
@[simp] abbrev V_l_eye (hand : Option SV := none) : PD.Env := [hand]
def k_l_eye_1 : MS := sRet (mCall 2 g_l_some (mCons (mV 0) (mCons (mList (mCons (mC (.int 0)) (mCons (mC (.int 1)) (mCons (mC (.int 2)) (mCons (mCall 2 g_l_draw (mCons (mV 0) (mCons (mC (.int 20)) (mNil)))) (mCons (mCall 2 g_l_draw (mCons (mV 0) (mCons (mC (.int 1001)) (mNil)))) (mNil))))))) (mNil))))
theorem eq_l_eye : m_l_eye = k_l_eye_1 := rfl
theorem goP_l_eye {r : D} {hh h' : List D} (h : RetsP r h' (k_l_eye_1 (V_l_eye (some (.par (.list hh))) ))) : EvP g_l_eye hh [] (.dat r) h' := EvP_go eq_l_eye h
theorem goPO_l_eye {r : D} {hh h' : List D} (h : RetsPO r h' (k_l_eye_1 (V_l_eye (some (.par (.list hh))) ))) : EvP g_l_eye hh [] (.own r) h' := EvPO_go eq_l_eye h
@[simp] abbrev V_l_hills (line one other eye way found place begin end_ far : Option SV := none) : PD.Env := [line, one, other, eye, way, found, place, begin, end_, far]
def k_l_hills_4b_1 : MS := sIf (bT (m2 (m2 (m2 (mV 0) (mV 6) dIx) (mV 9) dMul) (m2 (m2 (mV 7) (mV 9) dMul) (m2 (m2 (mV 8) (mV 7) dSub) (mN (mCons (m2 (mV 6) (mV 1) dSub) (mNil)) (on1 dAbs)) dMul) dAdd) dGt)) (sExpr (mAppend 5 (mCons (mV 6) (mNil)))) (sPass)
def k_l_hills_5 : MS := sRet (mV 5)
def k_l_hills_4 : MS := sSeq (sFor (iSeq (mV 4)) (tName 6) (k_l_hills_4b_1)) k_l_hills_5
def k_l_hills_3 : MS := sSeq (sOwn 5 (mList (mNil))) k_l_hills_4
def k_l_hills_2 : MS := sSeq (sSet 4 (mIf (bT (m2 (mV 1) (mV 2) dLt)) (mLR2 (m2 (mV 1) (mC (.int 1)) dAdd) (mV 2)) (mLR3 (mCons (m2 (mV 1) (mC (.int 1)) dSub) (mCons (mV 2) (mCons (m1 (mC (.int 1)) dNeg) (mNil))))))) k_l_hills_3
def k_l_hills_1 : MS := sSeq (sPar3 (7, false) (8, false) (9, false) (m2 (m2 (mV 0) (mV 1) dIx) (mV 3) dAdd) (m2 (mV 0) (mV 2) dIx) (mN (mCons (m2 (mV 2) (mV 1) dSub) (mNil)) (on1 dAbs))) k_l_hills_2
theorem eq_l_hills : m_l_hills = k_l_hills_1 := rfl
theorem go_l_hills {a0 a1 a2 a3 : D} {r : D} (h : Rets r (k_l_hills_1 (V_l_hills (some (.dat a0)) (some (.dat a1)) (some (.dat a2)) (some (.dat a3))))) : Ev g_l_hills [a0, a1, a2, a3] r := Ev_go eq_l_hills h
theorem goO_l_hills {a0 a1 a2 a3 : D} {r : D} (h : RetsO r (k_l_hills_1 (V_l_hills (some (.dat a0)) (some (.dat a1)) (some (.dat a2)) (some (.dat a3))))) : EvO g_l_hills [a0, a1, a2, a3] r := EvO_go eq_l_hills h
theorem goX_l_hills {a0 a1 a2 a3 : D} {x : Str} (h : Raises x (k_l_hills_1 (V_l_hills (some (.dat a0)) (some (.dat a1)) (some (.dat a2)) (some (.dat a3))))) : EvX g_l_hills [a0, a1, a2, a3] x := EvX_go eq_l_hills h
theorem goN_l_hills {a0 a1 a2 a3 : D} (h : Ends (k_l_hills_1 (V_l_hills (some (.dat a0)) (some (.dat a1)) (some (.dat a2)) (some (.dat a3))))) : Ev g_l_hills [a0, a1, a2, a3] .none := EvN_go eq_l_hills h
@[simp] abbrev V_l_deep (thing hand turn : Option SV := none) : PD.Env := [thing, hand, turn]
def k_l_deep_1b_1 : MS := sSet 0 (mIf (bT (m2 (mCall 2 g_l_draw (mCons (mV 1) (mCons (mC (.int 2)) (mNil)))) (mC (.int 0)) dEq)) (mList (mCons (mV 0) (mNil))) (mTup (mCons (mV 0) (mCons (mC (.str ("?" : Str))) (mNil)))))
def k_l_deep_2 : MS := sRet (mV 0)
def k_l_deep_1 : MS := sSeq (sFor (iRange1 (mCons (mCall 2 g_l_draw (mCons (mV 1) (mCons (mC (.int 6)) (mNil)))) (mNil))) (tName 2) (k_l_deep_1b_1)) k_l_deep_2
theorem eq_l_deep : m_l_deep = k_l_deep_1 := rfl
theorem go_l_deep {a0 a1 : D} {r : D} (h : Rets r (k_l_deep_1 (V_l_deep (some (.dat a0)) (some (.dat a1))))) : Ev g_l_deep [a0, a1] r := Ev_go eq_l_deep h
theorem goO_l_deep {a0 a1 : D} {r : D} (h : RetsO r (k_l_deep_1 (V_l_deep (some (.dat a0)) (some (.dat a1))))) : EvO g_l_deep [a0, a1] r := EvO_go eq_l_deep h
theorem goX_l_deep {a0 a1 : D} {x : Str} (h : Raises x (k_l_deep_1 (V_l_deep (some (.dat a0)) (some (.dat a1))))) : EvX g_l_deep [a0, a1] x := EvX_go eq_l_deep h
theorem goN_l_deep {a0 a1 : D} (h : Ends (k_l_deep_1 (V_l_deep (some (.dat a0)) (some (.dat a1))))) : Ev g_l_deep [a0, a1] .none := EvN_go eq_l_deep h
@[simp] abbrev V_p_raw_sees (line one other eye mark place low high begin end_ far : Option SV := none) : PD.Env := [line, one, other, eye, mark, place, low, high, begin, end_, far]
def k_p_raw_sees_3b_2 : MS := sIf (bT (m2 (m2 (m2 (mV 0) (mV 5) dIx) (m2 (mV 7) (mV 6) dSub) dMul) (m2 (m2 (mV 8) (m2 (m2 (mV 7) (mV 6) dSub) (mV 10) dSub) dMul) (m2 (mV 9) (mV 10) dMul) dAdd) dGt)) (sRet (mC (.bool false))) (sPass)
def k_p_raw_sees_3b_1 : MS := sSeq (sSet 10 (mN (mCons (m2 (mV 5) (mV 1) dSub) (mNil)) (on1 dAbs))) k_p_raw_sees_3b_2
def k_p_raw_sees_4 : MS := sRet (mC (.bool true))
def k_p_raw_sees_3 : MS := sSeq (sFor (iRange2 (mCons (m2 (mV 6) (mC (.int 1)) dAdd) (mCons (mV 7) (mNil)))) (tName 5) (k_p_raw_sees_3b_1)) k_p_raw_sees_4
def k_p_raw_sees_2 : MS := sSeq (sPar (8, false) (9, false) (m2 (m2 (mV 0) (mV 1) dIx) (mV 3) dAdd) (m2 (m2 (mV 0) (mV 2) dIx) (mV 4) dAdd)) k_p_raw_sees_3
def k_p_raw_sees_1 : MS := sSeq (sPar (6, false) (7, false) (mN (mCons (mV 1) (mCons (mV 2) (mNil))) dMin) (mN (mCons (mV 1) (mCons (mV 2) (mNil))) dMax)) k_p_raw_sees_2
theorem eq_p_raw_sees : m_p_raw_sees = k_p_raw_sees_1 := rfl
theorem go_p_raw_sees {a0 a1 a2 a3 a4 : D} {r : D} (h : Rets r (k_p_raw_sees_1 (V_p_raw_sees (some (.dat a0)) (some (.dat a1)) (some (.dat a2)) (some (.dat a3)) (some (.dat a4))))) : Ev g_p_raw_sees [a0, a1, a2, a3, a4] r := Ev_go eq_p_raw_sees h
theorem goO_p_raw_sees {a0 a1 a2 a3 a4 : D} {r : D} (h : RetsO r (k_p_raw_sees_1 (V_p_raw_sees (some (.dat a0)) (some (.dat a1)) (some (.dat a2)) (some (.dat a3)) (some (.dat a4))))) : EvO g_p_raw_sees [a0, a1, a2, a3, a4] r := EvO_go eq_p_raw_sees h
theorem goX_p_raw_sees {a0 a1 a2 a3 a4 : D} {x : Str} (h : Raises x (k_p_raw_sees_1 (V_p_raw_sees (some (.dat a0)) (some (.dat a1)) (some (.dat a2)) (some (.dat a3)) (some (.dat a4))))) : EvX g_p_raw_sees [a0, a1, a2, a3, a4] x := EvX_go eq_p_raw_sees h
theorem goN_p_raw_sees {a0 a1 a2 a3 a4 : D} (h : Ends (k_p_raw_sees_1 (V_p_raw_sees (some (.dat a0)) (some (.dat a1)) (some (.dat a2)) (some (.dat a3)) (some (.dat a4))))) : Ev g_p_raw_sees [a0, a1, a2, a3, a4] .none := EvN_go eq_p_raw_sees h
@[simp] abbrev V_p_is_hidden_told (line one other eye thing far whole : Option SV := none) : PD.Env := [line, one, other, eye, thing, far, whole]
def k_p_is_hidden_told_9 : MS := sRet (m2 (m2 (m2 (mV 0) (m2 (mV 4) (mC (.int 1)) dIx) dIx) (mV 6) dMul) (m2 (m2 (m2 (m2 (mV 0) (mV 1) dIx) (mV 3) dAdd) (m2 (mV 6) (mV 5) dSub) dMul) (m2 (m2 (mV 0) (mV 2) dIx) (mV 5) dMul) dAdd) dGt)
def k_p_is_hidden_told_8 : MS := sSeq (sPar (5, false) (6, false) (mN (mCons (m2 (m2 (mV 4) (mC (.int 1)) dIx) (mV 1) dSub) (mNil)) (on1 dAbs)) (mN (mCons (m2 (mV 2) (mV 1) dSub) (mNil)) (on1 dAbs))) k_p_is_hidden_told_9
def k_p_is_hidden_told_7 : MS := sSeq (sIf (bOr (bT (m2 (m2 (mV 4) (mC (.int 0)) dIx) (mC (.str ("hill" : Str))) dNe)) (bNot (bT (mCall 3 g_p_is_within (mCons (m2 (mV 4) (mC (.int 1)) dIx) (mCons (m2 (mN (mCons (mV 1) (mCons (mV 2) (mNil))) dMin) (mC (.int 1)) dAdd) (mCons (m2 (mN (mCons (mV 1) (mCons (mV 2) (mNil))) dMax) (mC (.int 1)) dSub) (mNil)))))))) (sRet (mC (.bool false))) (sPass)) k_p_is_hidden_told_8
def k_p_is_hidden_told_6 : MS := sSeq (sIf (bT (m2 (mN (mCons (mV 4) (mNil)) (on1 dLen)) (mC (.int 1)) dEq)) (sRet (mAndV (m2 (m2 (mV 4) (mC (.int 0)) dIx) (mC (.str ("seen" : Str))) dEq) (mCall 5 g_p_raw_sees (mCons (mV 0) (mCons (mV 1) (mCons (mV 2) (mCons (mV 3) (mCons (mC (.int 0)) (mNil))))))))) (sPass)) k_p_is_hidden_told_7
def k_p_is_hidden_told_5 : MS := sSeq (sIf (bOr (bNot (bT (mIsi (mV 4) dIsTuple))) (bOr (bT (m2 (mN (mCons (mV 4) (mNil)) (on1 dLen)) (mTup (mCons (mC (.int 1)) (mCons (mC (.int 2)) (mNil)))) (dInB true))) (bNot (bT (mIsi (m2 (mV 4) (mC (.int 0)) dIx) dIsStr))))) (sRet (mC (.bool false))) (sPass)) k_p_is_hidden_told_6
def k_p_is_hidden_told_4 : MS := sSeq (sExpr (mCall 3 g_p_check_number (mCons (mV 3) (mCons (mC (.int 0)) (mCons (mC c_MOST_HIGH) (mNil)))))) k_p_is_hidden_told_5
def k_p_is_hidden_told_3 : MS := sSeq (sExpr (mCall 2 g_p_check_place (mCons (mV 0) (mCons (mV 2) (mNil))))) k_p_is_hidden_told_4
def k_p_is_hidden_told_2 : MS := sSeq (sExpr (mCall 2 g_p_check_place (mCons (mV 0) (mCons (mV 1) (mNil))))) k_p_is_hidden_told_3
def k_p_is_hidden_told_1 : MS := sSeq (sExpr (mCall 1 g_p_check_line (mCons (mV 0) (mNil)))) k_p_is_hidden_told_2
theorem eq_p_is_hidden_told : m_p_is_hidden_told = k_p_is_hidden_told_1 := rfl
theorem go_p_is_hidden_told {a0 a1 a2 a3 a4 : D} {r : D} (h : Rets r (k_p_is_hidden_told_1 (V_p_is_hidden_told (some (.dat a0)) (some (.dat a1)) (some (.dat a2)) (some (.dat a3)) (some (.dat a4))))) : Ev g_p_is_hidden_told [a0, a1, a2, a3, a4] r := Ev_go eq_p_is_hidden_told h
theorem goO_p_is_hidden_told {a0 a1 a2 a3 a4 : D} {r : D} (h : RetsO r (k_p_is_hidden_told_1 (V_p_is_hidden_told (some (.dat a0)) (some (.dat a1)) (some (.dat a2)) (some (.dat a3)) (some (.dat a4))))) : EvO g_p_is_hidden_told [a0, a1, a2, a3, a4] r := EvO_go eq_p_is_hidden_told h
theorem goX_p_is_hidden_told {a0 a1 a2 a3 a4 : D} {x : Str} (h : Raises x (k_p_is_hidden_told_1 (V_p_is_hidden_told (some (.dat a0)) (some (.dat a1)) (some (.dat a2)) (some (.dat a3)) (some (.dat a4))))) : EvX g_p_is_hidden_told [a0, a1, a2, a3, a4] x := EvX_go eq_p_is_hidden_told h
theorem goN_p_is_hidden_told {a0 a1 a2 a3 a4 : D} (h : Ends (k_p_is_hidden_told_1 (V_p_is_hidden_told (some (.dat a0)) (some (.dat a1)) (some (.dat a2)) (some (.dat a3)) (some (.dat a4))))) : Ev g_p_is_hidden_told [a0, a1, a2, a3, a4] .none := EvN_go eq_p_is_hidden_told h
@[simp] abbrev V_p_sees (line one other eye : Option SV := none) : PD.Env := [line, one, other, eye]
def k_p_sees_5 : MS := sRet (mCall 5 g_p_raw_sees (mCons (mV 0) (mCons (mV 1) (mCons (mV 2) (mCons (mV 3) (mCons (mC (.int 0)) (mNil)))))))
def k_p_sees_4 : MS := sSeq (sExpr (mCall 3 g_p_check_number (mCons (mV 3) (mCons (mC (.int 0)) (mCons (mC c_MOST_HIGH) (mNil)))))) k_p_sees_5
def k_p_sees_3 : MS := sSeq (sExpr (mCall 2 g_p_check_place (mCons (mV 0) (mCons (mV 2) (mNil))))) k_p_sees_4
def k_p_sees_2 : MS := sSeq (sExpr (mCall 2 g_p_check_place (mCons (mV 0) (mCons (mV 1) (mNil))))) k_p_sees_3
def k_p_sees_1 : MS := sSeq (sExpr (mCall 1 g_p_check_line (mCons (mV 0) (mNil)))) k_p_sees_2
theorem eq_p_sees : m_p_sees = k_p_sees_1 := rfl
theorem go_p_sees {a0 a1 a2 a3 : D} {r : D} (h : Rets r (k_p_sees_1 (V_p_sees (some (.dat a0)) (some (.dat a1)) (some (.dat a2)) (some (.dat a3))))) : Ev g_p_sees [a0, a1, a2, a3] r := Ev_go eq_p_sees h
theorem goO_p_sees {a0 a1 a2 a3 : D} {r : D} (h : RetsO r (k_p_sees_1 (V_p_sees (some (.dat a0)) (some (.dat a1)) (some (.dat a2)) (some (.dat a3))))) : EvO g_p_sees [a0, a1, a2, a3] r := EvO_go eq_p_sees h
theorem goX_p_sees {a0 a1 a2 a3 : D} {x : Str} (h : Raises x (k_p_sees_1 (V_p_sees (some (.dat a0)) (some (.dat a1)) (some (.dat a2)) (some (.dat a3))))) : EvX g_p_sees [a0, a1, a2, a3] x := EvX_go eq_p_sees h
theorem goN_p_sees {a0 a1 a2 a3 : D} (h : Ends (k_p_sees_1 (V_p_sees (some (.dat a0)) (some (.dat a1)) (some (.dat a2)) (some (.dat a3))))) : Ev g_p_sees [a0, a1, a2, a3] .none := EvN_go eq_p_sees h
@[simp] abbrev V_l_right (hand many turn line eye one other hills due place low some odd at_ height : Option SV := none) : PD.Env := [hand, many, turn, line, eye, one, other, hills, due, place, low, some, odd, at_, height]
def k_l_right_3b_2t_5b_1 : MS := sIf (bNot (bT (mCall 2 g_l_is (mCons (mCall 5 g_p_is_hidden_told (mCons (mV 3) (mCons (mV 5) (mCons (mV 6) (mCons (mV 4) (mCons (mTup (mCons (mC (.str ("hill" : Str))) (mCons (mV 9) (mNil)))) (mNil))))))) (mCons (m2 (mV 9) (mV 7) (dInB false)) (mNil)))))) (sRet (mC (.bool false))) (sPass)
def k_l_right_3b_2t_7c1 : ME := mLc (iEnumA (mCons (mV 3) (mNil))) [13, 14] (tTup [tName 13, tName 14]) (bYes) (mIf (bT (m2 (mV 13) (mTup (mCons (mV 5) (mCons (mV 6) (mNil)))) (dInB true))) (mN (mCons (mV 14) (mCons (m2 (mV 3) (mV 6) dIx) (mNil))) dMin) (mV 14))
def k_l_right_3b_2t_11 : MS := sIf (bNot (bT (mCall 2 g_l_is (mCons (mCall 5 g_p_is_hidden_told (mCons (mV 3) (mCons (mV 5) (mCons (mV 6) (mCons (mV 4) (mCons (mV 12) (mNil))))))) (mCons (mC (.bool false)) (mNil)))))) (sRet (mC (.bool false))) (sPass)
def k_l_right_3b_2t_10 : MS := sSeq (sSet 12 (mCall 2 g_l_deep (mCons (mCall 2 g_l_some (mCons (mV 0) (mCons (mV 11) (mNil)))) (mCons (mV 0) (mNil))))) k_l_right_3b_2t_11
def k_l_right_3b_2t_9 : MS := sSeq (sSet 11 (mList (mCons (mC (.str ("?" : Str))) (mCons (mC .none) (mCons (mC (.int 0)) (mCons (mTup (mNil)) (mCons (mList (mCons (mC (.str ("seen" : Str))) (mNil))) (mCons (mTup (mCons (mC (.str ("seen" : Str))) (mCons (mC (.int 0)) (mNil)))) (mCons (mTup (mCons (mC (.str ("hill" : Str))) (mNil))) (mCons (mTup (mCons (mC (.str ("hill" : Str))) (mCons (mV 1) (mNil)))) (mCons (mTup (mCons (mC (.str ("hill" : Str))) (mCons (m1 (mC (.int 1)) dNeg) (mNil)))) (mCons (mTup (mCons (mC (.str ("?" : Str))) (mCons (mC (.int 0)) (mNil)))) (mCons (mDict0) (mNil)))))))))))))) k_l_right_3b_2t_10
def k_l_right_3b_2t_8 : MS := sSeq (sIf (bAnd (bT (m2 (m2 (m2 (mV 3) (mV 5) dIx) (mV 4) dAdd) (m2 (mV 3) (mV 6) dIx) dGe)) (bT (m2 (mCall 4 g_p_hidden_told (mCons (mN (mCons (mV 10) (mNil)) (on1 dTuple)) (mCons (mV 5) (mCons (mV 6) (mCons (mV 4) (mNil)))))) (mTup (mCons (mC (.str ("seen" : Str))) (mNil))) dNe))) (sRet (mC (.bool false))) (sPass)) k_l_right_3b_2t_9
def k_l_right_3b_2t_7 : MS := sSeq (sSet 10 (k_l_right_3b_2t_7c1)) k_l_right_3b_2t_8
def k_l_right_3b_2t_6 : MS := sSeq (sIf (bNot (bT (mCall 2 g_l_is (mCons (mCall 5 g_p_is_hidden_told (mCons (mV 3) (mCons (mV 5) (mCons (mV 6) (mCons (mV 4) (mCons (mTup (mCons (mC (.str ("seen" : Str))) (mNil))) (mNil))))))) (mCons (m2 (mN (mCons (mV 7) (mNil)) (on1 dLen)) (mC (.int 0)) dEq) (mNil)))))) (sRet (mC (.bool false))) (sPass)) k_l_right_3b_2t_7
def k_l_right_3b_2t_5 : MS := sSeq (sFor (iRange1 (mCons (mV 1) (mNil))) (tName 9) (k_l_right_3b_2t_5b_1)) k_l_right_3b_2t_6
def k_l_right_3b_2t_4 : MS := sSeq (sIf (bAnd (bT (m2 (mN (mCons (m2 (mV 5) (mV 6) dSub) (mNil)) (on1 dAbs)) (mC (.int 1)) dEq)) (bT (m2 (mN (mCons (mV 7) (mNil)) (on1 dLen)) (mC (.int 0)) dGt))) (sRet (mC (.bool false))) (sPass)) k_l_right_3b_2t_5
def k_l_right_3b_2t_3 : MS := sSeq (sIf (bNot (bT (mCall 2 g_l_is (mCons (mList (mCons (mCall 4 g_p_hidden_told (mCons (mV 3) (mCons (mV 5) (mCons (mV 6) (mCons (mV 4) (mNil)))))) (mCons (mCall 4 g_p_sees (mCons (mV 3) (mCons (mV 5) (mCons (mV 6) (mCons (mV 4) (mNil)))))) (mNil)))) (mCons (mList (mCons (mV 8) (mCons (m2 (mN (mCons (mV 7) (mNil)) (on1 dLen)) (mC (.int 0)) dEq) (mNil)))) (mNil)))))) (sRet (mC (.bool false))) (sPass)) k_l_right_3b_2t_4
def k_l_right_3b_2t_2 : MS := sSeq (sSet 8 (mIf (bT (m2 (mN (mCons (mV 7) (mNil)) (on1 dLen)) (mC (.int 0)) dEq)) (mTup (mCons (mC (.str ("seen" : Str))) (mNil))) (mTup (mCons (mC (.str ("hill" : Str))) (mCons (m2 (mV 7) (mC (.int 0)) dIx) (mNil)))))) k_l_right_3b_2t_3
def k_l_right_3b_2t_1 : MS := sSeq (sSet 7 (mCall 4 g_l_hills (mCons (mV 3) (mCons (mV 5) (mCons (mV 6) (mCons (mV 4) (mNil))))))) k_l_right_3b_2t_2
def k_l_right_3b_2 : MS := sIf (bT (m2 (mV 5) (mV 6) dNe)) (k_l_right_3b_2t_1) (sPass)
def k_l_right_3b_1 : MS := sSeq (sTgt (tTup [tName 5, tName 6]) (mTup (mCons (mCall 2 g_l_draw (mCons (mV 0) (mCons (mV 1) (mNil)))) (mCons (mCall 2 g_l_draw (mCons (mV 0) (mCons (mV 1) (mNil)))) (mNil))))) k_l_right_3b_2
def k_l_right_4 : MS := sRet (mC (.bool true))
def k_l_right_3 : MS := sSeq (sFor (iRange1 (mCons (mC (.int 4)) (mNil))) (tName 2) (k_l_right_3b_1)) k_l_right_4
def k_l_right_2 : MS := sSeq (sSet 1 (mN (mCons (mV 3) (mNil)) (on1 dLen))) k_l_right_3
def k_l_right_1 : MS := sSeq (sTgt (tTup [tName 3, tName 4]) (mTup (mCons (mCall 2 g_l_line (mCons (mV 0) (mCons (mC (.int 12)) (mNil)))) (mCons (mCall 1 g_l_eye (mCons (mV 0) (mNil))) (mNil))))) k_l_right_2
theorem eq_l_right : m_l_right = k_l_right_1 := rfl
theorem goP_l_right {r : D} {hh h' : List D} (h : RetsP r h' (k_l_right_1 (V_l_right (some (.par (.list hh))) ))) : EvP g_l_right hh [] (.dat r) h' := EvP_go eq_l_right h
theorem goPO_l_right {r : D} {hh h' : List D} (h : RetsPO r h' (k_l_right_1 (V_l_right (some (.par (.list hh))) ))) : EvP g_l_right hh [] (.own r) h' := EvPO_go eq_l_right h
@[simp] abbrev V_law_main (script hand line own_said bad far eye turn : Option SV := none) : PD.Env := [script, hand, line, own_said, bad, far, eye, turn]
def k_law_main_2c1 : ME := mLc (iRange1 (mCons (mC (.int 4)) (mNil))) [7] (tName 7) (bYes) (mCall 1 g_l_right (mCons (mV 1) (mNil)))
def k_law_main_12 : MS := sRet (mCall 2 g_l_is (mCons (mMv 3) (mCons (mList (mCons (mTup (mCons (mC (.str ("hill" : Str))) (mCons (mC (.int 1)) (mNil)))) (mCons (mTup (mCons (mC (.str ("hill" : Str))) (mCons (mC (.int 2)) (mNil)))) (mCons (mTup (mCons (mC (.str ("seen" : Str))) (mNil))) (mCons (mTup (mCons (mC (.str ("seen" : Str))) (mNil))) (mNil)))))) (mNil))))
def k_law_main_11 : MS := sSeq (sExpr (mAppend 3 (mCons (mCall 4 g_p_hidden_told (mCons (mTup (mCons (mC (.int 5)) (mCons (mC (.int 5)) (mCons (mC (.int 5)) (mNil))))) (mCons (mC (.int 0)) (mCons (mC (.int 2)) (mCons (mC (.int 0)) (mNil)))))) (mNil)))) k_law_main_12
def k_law_main_10 : MS := sSeq (sOwn 3 (mList (mCons (mCall 4 g_p_hidden_told (mCons (mV 2) (mCons (mC (.int 0)) (mCons (mC (.int 3)) (mCons (mC (.int 2)) (mNil)))))) (mCons (mCall 4 g_p_hidden_told (mCons (mV 2) (mCons (mC (.int 3)) (mCons (mC (.int 0)) (mCons (mC (.int 1)) (mNil)))))) (mCons (mCall 4 g_p_hidden_told (mCons (mV 2) (mCons (mC (.int 0)) (mCons (mC (.int 2)) (mCons (mC (.int 0)) (mNil)))))) (mNil)))))) k_law_main_11
def k_law_main_9 : MS := sSeq (sSet 2 (mTup (mCons (mC (.int 0)) (mCons (mC (.int 3)) (mCons (mC (.int 9)) (mCons (mC (.int 1)) (mNil))))))) k_law_main_10
def k_law_main_8 : MS := sSeq (sIf (bNot (bT (mIsX xnames (fun c => decide (c = ("NoLine" : Str))) (mTold 2 (mCall 5 g_p_is_hidden_told (mCons (mV 4) (mCons (mC (.int 0)) (mCons (mC (.int 1)) (mCons (mC (.int 1)) (mCons (mC .none) (mNil))))))) t_told)))) (sRet (mC (.bool false))) (sPass)) k_law_main_9
def k_law_main_7 : MS := sSeq (sIf (bNot (bT (mIsX xnames (fun c => decide (c = ("NoNumber" : Str))) (mTold 2 (mCall 4 g_p_hidden_told (mCons (mTup (mCons (mC (.int 1)) (mCons (mC (.int 2)) (mCons (mC (.int 3)) (mNil))))) (mCons (mC (.int 0)) (mCons (mC (.int 2)) (mCons (mV 6) (mNil)))))) t_told)))) (sRet (mC (.bool false))) (sPass)) k_law_main_8
def k_law_main_6 : MS := sSeq (sIf (bNot (bT (mIsX xnames (fun c => decide (c = ("NoNumber" : Str))) (mTold 2 (mCall 4 g_p_hidden_told (mCons (mTup (mCons (mC (.int 1)) (mCons (mC (.int 2)) (mCons (mC (.int 3)) (mNil))))) (mCons (mC (.int 0)) (mCons (mV 5) (mCons (mV 6) (mNil)))))) t_told)))) (sRet (mC (.bool false))) (sPass)) k_law_main_7
def k_law_main_5 : MS := sSeq (sIf (bNot (bT (mIsX xnames (fun c => decide (c = ("NoNumber" : Str))) (mTold 2 (mCall 4 g_p_hidden_told (mCons (mTup (mCons (mC (.int 1)) (mCons (mC (.int 2)) (mCons (mC (.int 3)) (mNil))))) (mCons (mV 5) (mCons (mC (.int 1)) (mCons (mV 6) (mNil)))))) t_told)))) (sRet (mC (.bool false))) (sPass)) k_law_main_6
def k_law_main_4 : MS := sSeq (sIf (bNot (bT (mIsX xnames (fun c => decide (c = ("NoLine" : Str))) (mTold 2 (mCall 4 g_p_hidden_told (mCons (mV 4) (mCons (mV 5) (mCons (mV 5) (mCons (mV 6) (mNil)))))) t_told)))) (sRet (mC (.bool false))) (sPass)) k_law_main_5
def k_law_main_3 : MS := sSeq (sTgt (tTup [tName 4, tName 5, tName 6]) (mTup (mCons (mCall 1 g_l_no_line (mCons (mV 1) (mNil))) (mCons (mCall 2 g_l_no_place (mCons (mV 1) (mCons (mC (.int 3)) (mNil)))) (mCons (mCall 1 g_l_no_eye (mCons (mV 1) (mNil))) (mNil)))))) k_law_main_4
def k_law_main_2 : MS := sSeq (sIf (bNot (bT (mN (mCons (k_law_main_2c1) (mNil)) (on1 dAll)))) (sRet (mC (.bool false))) (sPass)) k_law_main_3
def k_law_main_1 : MS := sSeq (sOwn 1 (mCall 1 g_l_hand (mCons (mV 0) (mNil)))) k_law_main_2
theorem eq_law_main : m_law_main = k_law_main_1 := rfl
theorem go_law_main {a0 : D} {r : D} (h : Rets r (k_law_main_1 (V_law_main (some (.dat a0))))) : Ev g_law_main [a0] r := Ev_go eq_law_main h
theorem goO_law_main {a0 : D} {r : D} (h : RetsO r (k_law_main_1 (V_law_main (some (.dat a0))))) : EvO g_law_main [a0] r := EvO_go eq_law_main h
theorem goX_law_main {a0 : D} {x : Str} (h : Raises x (k_law_main_1 (V_law_main (some (.dat a0))))) : EvX g_law_main [a0] x := EvX_go eq_law_main h
theorem goN_law_main {a0 : D} (h : Ends (k_law_main_1 (V_law_main (some (.dat a0))))) : Ev g_law_main [a0] .none := EvN_go eq_law_main h
end LW

namespace LW
open PySem PySem.Spec PyProof.Rows L2 PD

def top (i : Nat) : Stmt := PySem.Challenge.pw_landoffice_k34_whole_hills_between.main.body.getD i (.Pass ⟨0, 0, 0, 0⟩)
theorem hu2_of {A : Around} {k : Nat} (hr : Room k A) : A.units + 64 < cLine := by have := hr.un; omega
structure Txt (K : PySem.W.Frag) (mg : Str → Option Value) : Prop where
  b_ValueError : mg "ValueError" = none
  b_abs : mg "abs" = none
  b_all : mg "all" = none
  b_bool : mg "bool" = none
  b_enumerate : mg "enumerate" = none
  b_int : mg "int" = none
  b_isinstance : mg "isinstance" = none
  b_len : mg "len" = none
  b_list : mg "list" = none
  b_max : mg "max" = none
  b_min : mg "min" = none
  b_range : mg "range" = none
  b_repr : mg "repr" = none
  b_str : mg "str" = none
  b_tuple : mg "tuple" = none
  i_MOST_HIGH : ∃ t, mg "MOST_HIGH" = some (.int 1000 t)
  i_MOST_PLACES : ∃ t, mg "MOST_PLACES" = some (.int 24 t)
theorem q_glob_MOST_HIGH [Tab] [Zok] {X : Cx} {W : WX} {pos : Pos} (T : Txt X.K X.mg) (hg : Gl X "MOST_HIGH") : QE X W (.Name "MOST_HIGH" pos) (mC c_MOST_HIGH) := by
  obtain ⟨t, h⟩ := T.i_MOST_HIGH
  exact q_globI hg h
theorem q_glob_MOST_PLACES [Tab] [Zok] {X : Cx} {W : WX} {pos : Pos} (T : Txt X.K X.mg) (hg : Gl X "MOST_PLACES") : QE X W (.Name "MOST_PLACES" pos) (mC c_MOST_PLACES) := by
  obtain ⟨t, h⟩ := T.i_MOST_PLACES
  exact q_globI hg h
section
variable [Tab] {P : Program} {w : World} {K : PySem.W.Frag} {mg : Str → Option Value} {base : Heap}
abbrev s_l_hand : Stmt := top 20
theorem sc_l_hand : FnScope N_l_hand [("script" : Str)] (defScope s_l_hand) := ⟨rfl, rfl, rfl, by decide +kernel, rfl, by decide +kernel, by decide +kernel⟩
theorem ok_l_hand {f : Addr} {fd : FuncData}  (Fn : Fun K "_law_hand" "_law_hand" s_l_hand f fd) (hm : mg "_law_hand" = some (.ref f)) (T : Txt K mg) : DefOk P w K mg base 2 "_law_hand" [("script" : Str)] g_l_hand := by
  refine def_ok (N := N_l_hand) (m := m_l_hand) Fn hm (Fn.binds (ps := [("script" : Str)]) fun _ _ _ _ _ _ us hl => match us, hl with | [_], _ => rfl) sc_l_hand (by decide) fun cdv A outer s H E hr tk => ?_
  exact (qb_cons (qs_setLc (i := 1) (own := [(("cell" : Str), 2)]) rfl sc_l_hand.nd rfl rfl rfl (qi_seq (q_slice (q_v (pv 0)) qo_none (qo_some q_int))) (blkOk_by (by rfl)) (fun _ _ _ _ _ => (qg_name (pg_name (i := 2) sc_l_hand.nd rfl (by first | exact Or.inl rfl | exact Or.inr rfl)) (by decide))) (fun _ _ _ _ _ => qts_nil) (fun _ _ _ _ _ => (q_bltn cs_abs rfl T.b_abs (by first | rfl | decide +kernel) (qa_cons (q_bltnTy cs_int rfl T.b_int (by first | rfl | decide +kernel) (qa_cons (q_v (pv 2)) qa_nil)) qa_nil))))
    (qb_one (qs_ret (q_list (qa_cons (q_v (pv 1)) (qa_cons q_int (qa_cons q_int (qa_cons (q_add q_int (q_mul q_int (q_bltn cs_len rfl T.b_len (by first | rfl | decide +kernel) (qa_cons (q_v (pv 1)) qa_nil)))) (qa_cons q_int qa_nil)))))))))
abbrev s_l_is : Stmt := top 23
theorem sc_l_is : FnScope N_l_is [("mine" : Str), ("yours" : Str)] (defScope s_l_is) := ⟨rfl, rfl, rfl, by decide +kernel, rfl, by decide +kernel, by decide +kernel⟩
theorem ok_l_is {f : Addr} {fd : FuncData}  (Fn : Fun K "_law_is" "_law_is" s_l_is f fd) (hm : mg "_law_is" = some (.ref f)) (T : Txt K mg) : DefG P w K mg base 2 "_law_is" [("mine" : Str), ("yours" : Str)] g_l_is := by
  refine defG (N := N_l_is) (m := m_l_is) Fn hm (Fn.binds (ps := [("mine" : Str), ("yours" : Str)]) fun _ _ _ _ _ _ us hl => match us, hl with | [_, _], _ => rfl) sc_l_is (by decide) fun cdv A outer s H E hr hgd tk => ?_
  exact (qb_one (qs_ret (q_cmp (cmp_eq (hu2_of hr)) (q_bltn (cs_repr hgd (hu2_of hr)) rfl T.b_repr (by first | rfl | decide +kernel) (qa_cons (q_v (pv 0)) qa_nil)) (q_bltn (cs_repr hgd (hu2_of hr)) rfl T.b_repr (by first | rfl | decide +kernel) (qa_cons (q_v (pv 1)) qa_nil)) (nomark _))))
abbrev s_l_draw : Stmt := top 21
theorem sc_l_draw : FnScope N_l_draw [("hand" : Str), ("many" : Str)] (defScope s_l_draw) := ⟨rfl, rfl, rfl, by decide +kernel, rfl, by decide +kernel, by decide +kernel⟩
theorem ok_l_draw {f : Addr} {fd : FuncData}  (Fn : Fun K "_law_draw" "_law_draw" s_l_draw f fd) (hm : mg "_law_draw" = some (.ref f)) (T : Txt K mg) : DefOk P w K mg base 2 "_law_draw" [("hand" : Str), ("many" : Str)] g_l_draw := by
  refine def_ok (N := N_l_draw) (m := m_l_draw) Fn hm (Fn.binds (ps := [("hand" : Str), ("many" : Str)]) fun _ _ _ _ _ _ us hl => match us, hl with | [_, _], _ => rfl) sc_l_draw (by decide) fun cdv A outer s H E hr tk => ?_
  exact (qb_cons (qs_if (PW.pt (qw_and (qt_cmp (cmp_eq (hu2_of hr)) (q_ix (q_v (pv 0)) q_int) q_int (nomark _) bool_eq) (qw_and1 (qt_cmp (cmp_lt (hu2_of hr)) (q_ix (q_v (pv 0)) q_int) (q_bltn cs_len rfl T.b_len (by first | rfl | decide +kernel) (qa_cons (q_ix (q_v (pv 0)) q_int) qa_nil)) (nomark _) bool_lt)))) (qb_cons (qs_set (ps_set (i := 3) sc_l_draw.nd rfl (by first | exact Or.inl rfl | exact Or.inr rfl) (by exact (q_ix (q_ix (q_v (pv 0)) q_int) (q_ix (q_v (pv 0)) q_int)))) (fun _ _ _ h => h))
    (qb_cons (qs_setIx (q_add (q_ix (q_v (pv 0)) q_int) q_int) (pv 0) q_int)
    (qb_cons (qs_setIx (q_mod (q_bltnTy cs_int rfl T.b_int (by first | rfl | decide +kernel) (qa_cons (q_add (q_add (q_mul (q_ix (q_v (pv 0)) q_int) q_int) (q_mul (q_v (pv 3)) q_int)) q_int) qa_nil)) q_int) (pv 0) q_int)
    (qb_one (qs_if (qt_cmp (cmp_ge (hu2_of hr)) (q_v (pv 3)) (q_pow q_int q_int) (nomark _) bool_ge) (qb_one (qs_setIx (q_v (pv 3)) (pv 0) q_int)) qb_nil))))) qb_nil)
    (qb_cons (qs_if (qt_cmp (cmp_gt (hu2_of hr)) (q_ix (q_v (pv 0)) q_int) q_int (nomark _) bool_gt) (qb_cons (qs_set (ps_set (i := 4) sc_l_draw.nd rfl (by first | exact Or.inl rfl | exact Or.inr rfl) (by exact (q_mod (q_bltnTy cs_int rfl T.b_int (by first | rfl | decide +kernel) (qa_cons (q_ix (q_v (pv 0)) q_int) qa_nil)) (q_v (pv 1))))) (fun _ _ _ h => h))
    (qb_cons (qs_setIx (q_div (q_ix (q_v (pv 0)) q_int) (q_v (pv 1))) (pv 0) q_int)
    (qb_one (qs_ret (q_v (pv 4)))))) qb_nil)
    (qb_cons (qs_setIx (q_add (q_ix (q_v (pv 0)) q_int) q_int) (pv 0) q_int)
    (qb_cons (qs_set (ps_set (i := 2) sc_l_draw.nd rfl (by first | exact Or.inl rfl | exact Or.inr rfl) (by exact (q_mod (q_bltnTy cs_int rfl T.b_int (by first | rfl | decide +kernel) (qa_cons (q_mul (q_bltnTy cs_int rfl T.b_int (by first | rfl | decide +kernel) (qa_cons (q_add (q_ix (q_v (pv 0)) q_int) (q_mul q_int (q_ix (q_v (pv 0)) q_int))) qa_nil)) q_int) qa_nil)) q_int))) (fun _ _ _ h => h))
    (qb_cons (qs_set (ps_set (i := 2) sc_l_draw.nd rfl (by first | exact Or.inl rfl | exact Or.inr rfl) (by exact (q_mod (q_bltnTy cs_int rfl T.b_int (by first | rfl | decide +kernel) (qa_cons (q_mul (q_v (pv 2)) (q_add (q_div (q_v (pv 2)) q_int) q_int)) qa_nil)) q_int))) (fun _ _ _ h => h))
    (qb_cons (qs_set (ps_set (i := 2) sc_l_draw.nd rfl (by first | exact Or.inl rfl | exact Or.inr rfl) (by exact (q_mod (q_bltnTy cs_int rfl T.b_int (by first | rfl | decide +kernel) (qa_cons (q_mul (q_v (pv 2)) (q_add (q_div (q_v (pv 2)) q_int) q_int)) qa_nil)) q_int))) (fun _ _ _ h => h))
    (qb_one (qs_ret (q_mod (q_bltnTy cs_int rfl T.b_int (by first | rfl | decide +kernel) (qa_cons (q_div (q_v (pv 2)) q_int) qa_nil)) (q_v (pv 1)))))))))))
abbrev s_l_some : Stmt := top 22
theorem sc_l_some : FnScope N_l_some [("hand" : Str), ("things" : Str)] (defScope s_l_some) := ⟨rfl, rfl, rfl, by decide +kernel, rfl, by decide +kernel, by decide +kernel⟩
theorem ok_l_some {f : Addr} {fd : FuncData} (D_l_draw : DefOk P w K mg base 2 "_law_draw" [("hand" : Str), ("many" : Str)] g_l_draw) (Fn : Fun K "_law_some" "_law_some" s_l_some f fd) (hm : mg "_law_some" = some (.ref f)) (T : Txt K mg) : DefOk P w K mg base 3 "_law_some" [("hand" : Str), ("things" : Str)] g_l_some := by
  refine def_ok (N := N_l_some) (m := m_l_some) Fn hm (Fn.binds (ps := [("hand" : Str), ("things" : Str)]) fun _ _ _ _ _ _ us hl => match us, hl with | [_, _], _ => rfl) sc_l_some (by decide) fun cdv A outer s H E hr tk => ?_
  exact (qb_one (qs_ret (q_ix (q_v (pv 1)) (q_callD (j := 2) D_l_draw hr (by decide) rfl tk (qa_cons (q_v (pv 0)) (qa_cons (q_bltn cs_len rfl T.b_len (by first | rfl | decide +kernel) (qa_cons (q_v (pv 1)) qa_nil)) qa_nil))))))
abbrev s_l_no_line : Stmt := top 29
theorem sc_l_no_line : FnScope N_l_no_line [("hand" : Str)] (defScope s_l_no_line) := ⟨rfl, rfl, rfl, by decide +kernel, rfl, by decide +kernel, by decide +kernel⟩
theorem ok_l_no_line {f : Addr} {fd : FuncData} (D_l_some : DefOk P w K mg base 3 "_law_some" [("hand" : Str), ("things" : Str)] g_l_some) (Fn : Fun K "_law_no_line" "_law_no_line" s_l_no_line f fd) (hm : mg "_law_no_line" = some (.ref f)) (T : Txt K mg) : DefOk P w K mg base 4 "_law_no_line" [("hand" : Str)] g_l_no_line := by
  refine def_ok (N := N_l_no_line) (m := m_l_no_line) Fn hm (Fn.binds (ps := [("hand" : Str)]) fun _ _ _ _ _ _ us hl => match us, hl with | [_], _ => rfl) sc_l_no_line (by decide) fun cdv A outer s H E hr tk => ?_
  exact (qb_cons (qs_set (ps_set (i := 1) sc_l_no_line.nd rfl (by first | exact Or.inl rfl | exact Or.inr rfl) (by exact (q_list (qa_cons q_str (qa_cons q_non (qa_cons q_int (qa_cons (q_tuple qa_nil) (qa_cons (q_tuple (qa_cons q_int qa_nil)) (qa_cons (q_list (qa_cons q_int (qa_cons q_int qa_nil))) (qa_cons (q_tuple (qa_cons q_int (qa_cons q_int qa_nil))) (qa_cons (q_tuple (qa_cons (q_neg q_int) (qa_cons q_int qa_nil))) (qa_cons (q_tuple (qa_cons q_bl (qa_cons q_int qa_nil))) (qa_cons (q_mul (q_tuple (qa_cons q_int qa_nil)) q_int) (qa_cons (q_tuple (qa_cons q_str (qa_cons q_int qa_nil))) (qa_cons q_dict0 qa_nil))))))))))))))) (fun _ _ _ h => h))
    (qb_one (qs_ret (q_callD (j := 3) D_l_some hr (by decide) rfl tk (qa_cons (q_v (pv 0)) (qa_cons (q_v (pv 1)) qa_nil))))))
abbrev s_l_no_place : Stmt := top 31
theorem sc_l_no_place : FnScope N_l_no_place [("hand" : Str), ("many" : Str)] (defScope s_l_no_place) := ⟨rfl, rfl, rfl, by decide +kernel, rfl, by decide +kernel, by decide +kernel⟩
theorem ok_l_no_place {f : Addr} {fd : FuncData} (D_l_some : DefOk P w K mg base 3 "_law_some" [("hand" : Str), ("things" : Str)] g_l_some) (Fn : Fun K "_law_no_place" "_law_no_place" s_l_no_place f fd) (hm : mg "_law_no_place" = some (.ref f)) (T : Txt K mg) : DefOk P w K mg base 4 "_law_no_place" [("hand" : Str), ("many" : Str)] g_l_no_place := by
  refine def_ok (N := N_l_no_place) (m := m_l_no_place) Fn hm (Fn.binds (ps := [("hand" : Str), ("many" : Str)]) fun _ _ _ _ _ _ us hl => match us, hl with | [_, _], _ => rfl) sc_l_no_place (by decide) fun cdv A outer s H E hr tk => ?_
  exact (qb_one (qs_ret (q_callD (j := 3) D_l_some hr (by decide) rfl tk (qa_cons (q_v (pv 0)) (qa_cons (q_list (qa_cons q_str (qa_cons q_non (qa_cons (q_neg q_int) (qa_cons (q_v (pv 1)) (qa_cons q_bl (qa_cons (q_tuple (qa_cons q_int qa_nil)) qa_nil))))))) qa_nil)))))
abbrev s_l_no_eye : Stmt := top 30
theorem sc_l_no_eye : FnScope N_l_no_eye [("hand" : Str)] (defScope s_l_no_eye) := ⟨rfl, rfl, rfl, by decide +kernel, rfl, by decide +kernel, by decide +kernel⟩
theorem ok_l_no_eye {f : Addr} {fd : FuncData} (D_l_some : DefOk P w K mg base 3 "_law_some" [("hand" : Str), ("things" : Str)] g_l_some) (Fn : Fun K "_law_no_eye" "_law_no_eye" s_l_no_eye f fd) (hm : mg "_law_no_eye" = some (.ref f)) (T : Txt K mg) : DefOk P w K mg base 4 "_law_no_eye" [("hand" : Str)] g_l_no_eye := by
  refine def_ok (N := N_l_no_eye) (m := m_l_no_eye) Fn hm (Fn.binds (ps := [("hand" : Str)]) fun _ _ _ _ _ _ us hl => match us, hl with | [_], _ => rfl) sc_l_no_eye (by decide) fun cdv A outer s H E hr tk => ?_
  exact (qb_one (qs_ret (q_callD (j := 3) D_l_some hr (by decide) rfl tk (qa_cons (q_v (pv 0)) (qa_cons (q_list (qa_cons q_str (qa_cons q_non (qa_cons (q_neg q_int) (qa_cons q_int (qa_cons q_bl (qa_cons (q_tuple (qa_cons q_int qa_nil)) qa_nil))))))) qa_nil)))))
abbrev s_p_is_sized : Stmt := top 7
theorem sc_p_is_sized : FnScope N_p_is_sized [("thing" : Str), ("least" : Str), ("most" : Str)] (defScope s_p_is_sized) := ⟨rfl, rfl, rfl, by decide +kernel, rfl, by decide +kernel, by decide +kernel⟩
theorem ok_p_is_sized {f : Addr} {fd : FuncData}  (Fn : Fun K "is_sized" "is_sized" s_p_is_sized f fd) (hm : mg "is_sized" = some (.ref f)) (T : Txt K mg) : DefOk P w K mg base 2 "is_sized" [("thing" : Str), ("least" : Str), ("most" : Str)] g_p_is_sized := by
  refine def_ok (N := N_p_is_sized) (m := m_p_is_sized) Fn hm (Fn.binds (ps := [("thing" : Str), ("least" : Str), ("most" : Str)]) fun _ _ _ _ _ _ us hl => match us, hl with | [_, _, _], _ => rfl) sc_p_is_sized (by decide) fun cdv A outer s H E hr tk => ?_
  exact (qb_one (qs_ret (q_and (q_isi isi_tuple rfl T.b_isinstance (by first | rfl | decide +kernel) (q_v (pv 0)) rfl T.b_tuple (by first | rfl | decide +kernel)) (q_one (q_chain (cmp_le (hu2_of hr)) (cmp_le (hu2_of hr)) (q_v (pv 1)) (q_bltn cs_len rfl T.b_len (by first | rfl | decide +kernel) (qa_cons (q_v (pv 0)) qa_nil)) (q_v (pv 2)))))))
abbrev s_p_is_integer : Stmt := top 5
theorem sc_p_is_integer : FnScope N_p_is_integer [("thing" : Str)] (defScope s_p_is_integer) := ⟨rfl, rfl, rfl, by decide +kernel, rfl, by decide +kernel, by decide +kernel⟩
theorem ok_p_is_integer {f : Addr} {fd : FuncData}  (Fn : Fun K "is_integer" "is_integer" s_p_is_integer f fd) (hm : mg "is_integer" = some (.ref f)) (T : Txt K mg) : DefOk P w K mg base 2 "is_integer" [("thing" : Str)] g_p_is_integer := by
  refine def_ok (N := N_p_is_integer) (m := m_p_is_integer) Fn hm (Fn.binds (ps := [("thing" : Str)]) fun _ _ _ _ _ _ us hl => match us, hl with | [_], _ => rfl) sc_p_is_integer (by decide) fun cdv A outer s H E hr tk => ?_
  exact (qb_one (qs_ret (q_and (q_isi isi_int rfl T.b_isinstance (by first | rfl | decide +kernel) (q_v (pv 0)) rfl T.b_int (by first | rfl | decide +kernel)) (q_one (q_not (q_isi isi_bool rfl T.b_isinstance (by first | rfl | decide +kernel) (q_v (pv 0)) rfl T.b_bool (by first | rfl | decide +kernel)))))))
abbrev s_p_is_within : Stmt := top 6
theorem sc_p_is_within : FnScope N_p_is_within [("thing" : Str), ("least" : Str), ("most" : Str)] (defScope s_p_is_within) := ⟨rfl, rfl, rfl, by decide +kernel, rfl, by decide +kernel, by decide +kernel⟩
theorem ok_p_is_within {f : Addr} {fd : FuncData} (D_p_is_integer : DefOk P w K mg base 2 "is_integer" [("thing" : Str)] g_p_is_integer) (Fn : Fun K "is_within" "is_within" s_p_is_within f fd) (hm : mg "is_within" = some (.ref f)) (T : Txt K mg) : DefOk P w K mg base 3 "is_within" [("thing" : Str), ("least" : Str), ("most" : Str)] g_p_is_within := by
  refine def_ok (N := N_p_is_within) (m := m_p_is_within) Fn hm (Fn.binds (ps := [("thing" : Str), ("least" : Str), ("most" : Str)]) fun _ _ _ _ _ _ us hl => match us, hl with | [_, _, _], _ => rfl) sc_p_is_within (by decide) fun cdv A outer s H E hr tk => ?_
  exact (qb_one (qs_ret (q_and (q_callD (j := 2) D_p_is_integer hr (by decide) rfl tk (qa_cons (q_v (pv 0)) qa_nil)) (q_one (q_chain (cmp_le (hu2_of hr)) (cmp_le (hu2_of hr)) (q_v (pv 1)) (q_v (pv 0)) (q_v (pv 2)))))))
abbrev s_p_is_line : Stmt := top 12
theorem sc_p_is_line : FnScope N_p_is_line [("thing" : Str)] (defScope s_p_is_line) := ⟨rfl, rfl, rfl, by decide +kernel, rfl, by decide +kernel, by decide +kernel⟩
theorem ok_p_is_line {f : Addr} {fd : FuncData} (D_p_is_sized : DefOk P w K mg base 2 "is_sized" [("thing" : Str), ("least" : Str), ("most" : Str)] g_p_is_sized) (D_p_is_within : DefOk P w K mg base 3 "is_within" [("thing" : Str), ("least" : Str), ("most" : Str)] g_p_is_within) (Fn : Fun K "is_line" "is_line" s_p_is_line f fd) (hm : mg "is_line" = some (.ref f)) (T : Txt K mg) : DefOk P w K mg base 4 "is_line" [("thing" : Str)] g_p_is_line := by
  refine def_ok (N := N_p_is_line) (m := m_p_is_line) Fn hm (Fn.binds (ps := [("thing" : Str)]) fun _ _ _ _ _ _ us hl => match us, hl with | [_], _ => rfl) sc_p_is_line (by decide) fun cdv A outer s H E hr tk => ?_
  exact (qb_one (qs_ret (q_and (q_callD (j := 3) D_p_is_sized hr (by decide) rfl tk (qa_cons (q_v (pv 0)) (qa_cons q_int (qa_cons (q_glob_MOST_PLACES T rfl) qa_nil)))) (q_one (q_bltn (cs_all rfl) rfl T.b_all (by first | rfl | decide +kernel) (qa_cons (q_lc (own := [(("one" : Str), 1)]) rfl sc_p_is_line.nd (qi_seq (q_v (pv 0))) (blkOk_by (by rfl)) (fun _ _ _ _ _ => (qg_name (pg_name (i := 1) sc_p_is_line.nd rfl (by first | exact Or.inl rfl | exact Or.inr rfl)) (by decide))) (fun _ _ _ _ _ => qts_nil) (fun _ _ _ _ _ => (q_callD (j := 3) D_p_is_within hr (by decide) rfl LamX.takes0 (qa_cons (q_v (pv 1)) (qa_cons q_int (qa_cons (q_glob_MOST_HIGH T rfl) qa_nil)))))) qa_nil))))))
abbrev s_p_check_line : Stmt := top 13
theorem sc_p_check_line : FnScope N_p_check_line [("thing" : Str)] (defScope s_p_check_line) := ⟨rfl, rfl, rfl, by decide +kernel, rfl, by decide +kernel, by decide +kernel⟩
theorem ok_p_check_line {f : Addr} {fd : FuncData} (D_p_is_line : DefOk P w K mg base 4 "is_line" [("thing" : Str)] g_p_is_line) (Er_NoLine : ErrOk P w K mg base "NoLine") (Fn : Fun K "check_line" "check_line" s_p_check_line f fd) (hm : mg "check_line" = some (.ref f)) (T : Txt K mg) : DefOk P w K mg base 5 "check_line" [("thing" : Str)] g_p_check_line := by
  refine def_ok (N := N_p_check_line) (m := m_p_check_line) Fn hm (Fn.binds (ps := [("thing" : Str)]) fun _ _ _ _ _ _ us hl => match us, hl with | [_], _ => rfl) sc_p_check_line (by decide) fun cdv A outer s H E hr tk => ?_
  exact (qb_one (qs_if (qt_not (qt_truth (q_callD (j := 4) D_p_is_line hr (by decide) rfl tk (qa_cons (q_v (pv 0)) qa_nil)))) (qb_one (qs_raiseD Er_NoLine hr (by decide) rfl tk rfl)) qb_nil))
abbrev s_p_check_number : Stmt := top 8
theorem sc_p_check_number : FnScope N_p_check_number [("thing" : Str), ("least" : Str), ("most" : Str)] (defScope s_p_check_number) := ⟨rfl, rfl, rfl, by decide +kernel, rfl, by decide +kernel, by decide +kernel⟩
theorem ok_p_check_number {f : Addr} {fd : FuncData} (D_p_is_within : DefOk P w K mg base 3 "is_within" [("thing" : Str), ("least" : Str), ("most" : Str)] g_p_is_within) (Er_NoNumber : ErrOk P w K mg base "NoNumber") (Fn : Fun K "check_number" "check_number" s_p_check_number f fd) (hm : mg "check_number" = some (.ref f)) (T : Txt K mg) : DefOk P w K mg base 4 "check_number" [("thing" : Str), ("least" : Str), ("most" : Str)] g_p_check_number := by
  refine def_ok (N := N_p_check_number) (m := m_p_check_number) Fn hm (Fn.binds (ps := [("thing" : Str), ("least" : Str), ("most" : Str)]) fun _ _ _ _ _ _ us hl => match us, hl with | [_, _, _], _ => rfl) sc_p_check_number (by decide) fun cdv A outer s H E hr tk => ?_
  exact (qb_one (qs_if (qt_not (qt_truth (q_callD (j := 3) D_p_is_within hr (by decide) rfl tk (qa_cons (q_v (pv 0)) (qa_cons (q_v (pv 1)) (qa_cons (q_v (pv 2)) qa_nil)))))) (qb_one (qs_raiseD Er_NoNumber hr (by decide) rfl tk rfl)) qb_nil))
abbrev s_p_check_place : Stmt := top 14
theorem sc_p_check_place : FnScope N_p_check_place [("line" : Str), ("place" : Str)] (defScope s_p_check_place) := ⟨rfl, rfl, rfl, by decide +kernel, rfl, by decide +kernel, by decide +kernel⟩
theorem ok_p_check_place {f : Addr} {fd : FuncData} (D_p_check_number : DefOk P w K mg base 4 "check_number" [("thing" : Str), ("least" : Str), ("most" : Str)] g_p_check_number) (Fn : Fun K "check_place" "check_place" s_p_check_place f fd) (hm : mg "check_place" = some (.ref f)) (T : Txt K mg) : DefOk P w K mg base 5 "check_place" [("line" : Str), ("place" : Str)] g_p_check_place := by
  refine def_ok (N := N_p_check_place) (m := m_p_check_place) Fn hm (Fn.binds (ps := [("line" : Str), ("place" : Str)]) fun _ _ _ _ _ _ us hl => match us, hl with | [_, _], _ => rfl) sc_p_check_place (by decide) fun cdv A outer s H E hr tk => ?_
  exact (qb_one (qs_expr (q_callD (j := 4) D_p_check_number hr (by decide) rfl tk (qa_cons (q_v (pv 1)) (qa_cons q_int (qa_cons (q_sub (q_bltn cs_len rfl T.b_len (by first | rfl | decide +kernel) (qa_cons (q_v (pv 0)) qa_nil)) q_int) qa_nil))))))
abbrev s_p_hidden_told : Stmt := top 17
theorem sc_p_hidden_told : FnScope N_p_hidden_told [("line" : Str), ("one" : Str), ("other" : Str), ("eye" : Str)] (defScope s_p_hidden_told) := ⟨rfl, rfl, rfl, by decide +kernel, rfl, by decide +kernel, by decide +kernel⟩
theorem ok_p_hidden_told {f : Addr} {fd : FuncData} (D_p_check_line : DefOk P w K mg base 5 "check_line" [("thing" : Str)] g_p_check_line) (D_p_check_place : DefOk P w K mg base 5 "check_place" [("line" : Str), ("place" : Str)] g_p_check_place) (D_p_check_number : DefOk P w K mg base 4 "check_number" [("thing" : Str), ("least" : Str), ("most" : Str)] g_p_check_number) (Fn : Fun K "hidden_told" "hidden_told" s_p_hidden_told f fd) (hm : mg "hidden_told" = some (.ref f)) (T : Txt K mg) : DefOk P w K mg base 6 "hidden_told" [("line" : Str), ("one" : Str), ("other" : Str), ("eye" : Str)] g_p_hidden_told := by
  refine def_ok (N := N_p_hidden_told) (m := m_p_hidden_told) Fn hm (Fn.binds (ps := [("line" : Str), ("one" : Str), ("other" : Str), ("eye" : Str)]) fun _ _ _ _ _ _ us hl => match us, hl with | [_, _, _, _], _ => rfl) sc_p_hidden_told (by decide) fun cdv A outer s H E hr tk => ?_
  exact (qb_cons (qs_expr (q_callD (j := 5) D_p_check_line hr (by decide) rfl tk (qa_cons (q_v (pv 0)) qa_nil)))
    (qb_cons (qs_expr (q_callD (j := 5) D_p_check_place hr (by decide) rfl tk (qa_cons (q_v (pv 0)) (qa_cons (q_v (pv 1)) qa_nil))))
    (qb_cons (qs_expr (q_callD (j := 5) D_p_check_place hr (by decide) rfl tk (qa_cons (q_v (pv 0)) (qa_cons (q_v (pv 2)) qa_nil))))
    (qb_cons (qs_expr (q_callD (j := 5) D_p_check_number hr (by decide) rfl tk (qa_cons (q_v (pv 3)) (qa_cons q_int (qa_cons (q_glob_MOST_HIGH T rfl) qa_nil)))))
    (qb_cons (qs_set (ps_set (i := 4) sc_p_hidden_told.nd rfl (by first | exact Or.inl rfl | exact Or.inr rfl) (by exact (q_if (qt_cmp (cmp_gt (hu2_of hr)) (q_v (pv 2)) (q_v (pv 1)) (nomark _) bool_gt) q_int (q_neg q_int)))) (fun _ _ _ h => h))
    (qb_cons (qs_set (ps_set (i := 5) sc_p_hidden_told.nd rfl (by first | exact Or.inl rfl | exact Or.inr rfl) (by exact (q_bltn cs_abs rfl T.b_abs (by first | rfl | decide +kernel) (qa_cons (q_sub (q_v (pv 2)) (q_v (pv 1))) qa_nil)))) (fun _ _ _ h => h))
    (qb_cons (qs_for (js := [6]) (passes_of rfl) rfl (qi_range2 rfl T.b_range (qa_cons q_int (qa_cons (q_v (pv 5)) qa_nil))) (qg_name (pg_name (i := 6) sc_p_hidden_told.nd rfl (by first | exact Or.inl rfl | exact Or.inr rfl)) (by decide)) (qb_cons (qs_set (ps_set (i := 7) sc_p_hidden_told.nd rfl (by first | exact Or.inl rfl | exact Or.inr rfl) (by exact (q_add (q_v (pv 1)) (q_mul (q_v (pv 4)) (q_v (pv 6)))))) (fun _ _ _ h => h))
    (qb_one (qs_if (qt_cmp (cmp_gt (hu2_of hr)) (q_mul (q_ix (q_v (pv 0)) (q_v (pv 7))) (q_v (pv 5))) (q_add (q_mul (q_add (q_ix (q_v (pv 0)) (q_v (pv 1))) (q_v (pv 3))) (q_sub (q_v (pv 5)) (q_v (pv 6)))) (q_mul (q_ix (q_v (pv 0)) (q_v (pv 2))) (q_v (pv 6)))) (nomark _) bool_gt) (qb_one (qs_ret (q_tuple (qa_cons q_str (qa_cons (q_v (pv 7)) qa_nil))))) qb_nil))))
    (qb_one (qs_ret (q_tuple (qa_cons q_str qa_nil)))))))))))
abbrev s_l_error : Stmt := top 25
theorem sc_l_error : FnScope N_l_error [("call" : Str)] (defScope s_l_error) := ⟨rfl, rfl, rfl, by decide +kernel, rfl, by decide +kernel, by decide +kernel⟩
theorem ok_l_error {f : Addr} {fd : FuncData} {ctop : Value} (Fn : Fun K "_law_error" "_law_error" s_l_error f fd) (hm : mg "_law_error" = some (.ref f)) (T : Txt K mg) (XT : ExcTab K mg ctop xnames) (XTm : mg "LandError" = some ctop) : ToldD P w K mg base 6 N_l_error "_law_error" "call" t_told := by
  refine told_mk Fn sc_l_error rfl (by first | exact Or.inl rfl | exact Or.inr (Or.inl rfl)) (Fn.binds (ps := [("call" : Str)]) fun _ _ _ _ _ _ us hl => match us, hl with | [_], _ => rfl) hm ?_
  intro zk cdg A outer s H tr hr act
  exact (qb_cons (qs_try zk (i := 1) rfl rfl sc_l_error.nd rfl rfl ⟨rfl, by decide, .inl XTm⟩ LamX.takes0 (ExcTab.catch XT) (ExcTab.ns XT) (fun W3 pn3 xe3 tk3 _ => (qb_one (qs_expr (act _ _ _ _ _ tk3)))) (fun e a pn hca => by letI : Zok := zSuite zk 1 a; exact (qb_one (qs_ret (q_v (pv 1))))))
    (qb_one (qs_ret q_non)))
abbrev s_l_line : Stmt := top 26
theorem sc_l_line : FnScope N_l_line [("hand" : Str), ("most" : Str)] (defScope s_l_line) := ⟨rfl, rfl, rfl, by decide +kernel, rfl, by decide +kernel, by decide +kernel⟩
theorem ok_l_line {f : Addr} {fd : FuncData} (D_l_some : DefOk P w K mg base 3 "_law_some" [("hand" : Str), ("things" : Str)] g_l_some) (D_l_draw : DefOk P w K mg base 2 "_law_draw" [("hand" : Str), ("many" : Str)] g_l_draw) (Fn : Fun K "_law_line" "_law_line" s_l_line f fd) (hm : mg "_law_line" = some (.ref f)) (T : Txt K mg) : DefOk P w K mg base 4 "_law_line" [("hand" : Str), ("most" : Str)] g_l_line := by
  refine def_ok (N := N_l_line) (m := m_l_line) Fn hm (Fn.binds (ps := [("hand" : Str), ("most" : Str)]) fun _ _ _ _ _ _ us hl => match us, hl with | [_, _], _ => rfl) sc_l_line (by decide) fun cdv A outer s H E hr tk => ?_
  exact (qb_cons (qs_set (ps_set (i := 2) sc_l_line.nd rfl (by first | exact Or.inl rfl | exact Or.inr rfl) (by exact (q_callD (j := 3) D_l_some hr (by decide) rfl tk (qa_cons (q_v (pv 0)) (qa_cons (q_list (qa_cons q_int (qa_cons q_int (qa_cons q_int (qa_cons q_int qa_nil))))) qa_nil))))) (fun _ _ _ h => h))
    (qb_one (qs_ret (q_bltnTy cs_tuple rfl T.b_tuple (by first | rfl | decide +kernel) (qa_cons (q_lc (own := [(("place" : Str), 3)]) rfl sc_l_line.nd (qi_range1 rfl T.b_range (qa_cons (q_add q_int (q_callD (j := 3) D_l_draw hr (by decide) rfl tk (qa_cons (q_v (pv 0)) (qa_cons (q_sub (q_v (pv 1)) q_int) qa_nil)))) qa_nil)) (blkOk_by (by rfl)) (fun _ _ _ _ _ => (qg_name (pg_name (i := 3) sc_l_line.nd rfl (by first | exact Or.inl rfl | exact Or.inr rfl)) (by decide))) (fun _ _ _ _ _ => qts_nil) (fun _ _ _ _ _ => (q_callD (j := 3) D_l_draw hr (by decide) rfl LamX.takes0 (qa_cons (q_v (pv 0)) (qa_cons (q_v (pv 2)) qa_nil))))) qa_nil)))))
abbrev s_l_eye : Stmt := top 27
theorem sc_l_eye : FnScope N_l_eye [("hand" : Str)] (defScope s_l_eye) := ⟨rfl, rfl, rfl, by decide +kernel, rfl, by decide +kernel, by decide +kernel⟩
theorem ok_l_eye {f : Addr} {fd : FuncData} (D_l_some : DefOk P w K mg base 3 "_law_some" [("hand" : Str), ("things" : Str)] g_l_some) (D_l_draw : DefOk P w K mg base 2 "_law_draw" [("hand" : Str), ("many" : Str)] g_l_draw) (Fn : Fun K "_law_eye" "_law_eye" s_l_eye f fd) (hm : mg "_law_eye" = some (.ref f)) (T : Txt K mg) : DefOk P w K mg base 4 "_law_eye" [("hand" : Str)] g_l_eye := by
  refine def_ok (N := N_l_eye) (m := m_l_eye) Fn hm (Fn.binds (ps := [("hand" : Str)]) fun _ _ _ _ _ _ us hl => match us, hl with | [_], _ => rfl) sc_l_eye (by decide) fun cdv A outer s H E hr tk => ?_
  exact (qb_one (qs_ret (q_callD (j := 3) D_l_some hr (by decide) rfl tk (qa_cons (q_v (pv 0)) (qa_cons (q_list (qa_cons q_int (qa_cons q_int (qa_cons q_int (qa_cons (q_callD (j := 3) D_l_draw hr (by decide) rfl tk (qa_cons (q_v (pv 0)) (qa_cons q_int qa_nil))) (qa_cons (q_callD (j := 3) D_l_draw hr (by decide) rfl tk (qa_cons (q_v (pv 0)) (qa_cons q_int qa_nil))) qa_nil)))))) qa_nil)))))
abbrev s_l_hills : Stmt := top 28
theorem sc_l_hills : FnScope N_l_hills [("line" : Str), ("one" : Str), ("other" : Str), ("eye" : Str)] (defScope s_l_hills) := ⟨rfl, rfl, rfl, by decide +kernel, rfl, by decide +kernel, by decide +kernel⟩
theorem ok_l_hills {f : Addr} {fd : FuncData}  (Fn : Fun K "_law_hills" "_law_hills" s_l_hills f fd) (hm : mg "_law_hills" = some (.ref f)) (T : Txt K mg) : DefOk P w K mg base 2 "_law_hills" [("line" : Str), ("one" : Str), ("other" : Str), ("eye" : Str)] g_l_hills := by
  refine def_ok (N := N_l_hills) (m := m_l_hills) Fn hm (Fn.binds (ps := [("line" : Str), ("one" : Str), ("other" : Str), ("eye" : Str)]) fun _ _ _ _ _ _ us hl => match us, hl with | [_, _, _, _], _ => rfl) sc_l_hills (by decide) fun cdv A outer s H E hr tk => ?_
  exact (qb_cons (qs_par3 (i := 7) (j := 8) (l := 9) rfl sc_l_hills.nd rfl rfl rfl (by decide) (by decide) (by decide) rfl rfl rfl (q_add (q_ix (q_v (pv 0)) (q_v (pv 1))) (q_v (pv 3))) (q_ix (q_v (pv 0)) (q_v (pv 2))) (q_bltn cs_abs rfl T.b_abs (by first | rfl | decide +kernel) (qa_cons (q_sub (q_v (pv 2)) (q_v (pv 1))) qa_nil)) rfl)
    (qb_cons (qs_set (ps_set (i := 4) sc_l_hills.nd rfl (by first | exact Or.inl rfl | exact Or.inr rfl) (by exact (q_if (qt_cmp (cmp_lt (hu2_of hr)) (q_v (pv 1)) (q_v (pv 2)) (nomark _) bool_lt) (q_lr2 rfl rfl T.b_list rfl T.b_range (q_add (q_v (pv 1)) q_int) (q_v (pv 2))) (q_lr3 rfl rfl T.b_list rfl T.b_range (qa_cons (q_sub (q_v (pv 1)) q_int) (qa_cons (q_v (pv 2)) (qa_cons (q_neg q_int) qa_nil))))))) (fun _ _ _ h => h))
    (qb_cons (qs_own (ps_set (i := 5) sc_l_hills.nd rfl (by first | exact Or.inl rfl | exact Or.inr rfl) (by exact (q_list qa_nil))) (fun _ _ _ h => h))
    (qb_cons (qs_for (js := [6]) (passes_of rfl) rfl (qi_seq (q_v (pv 4))) (qg_name (pg_name (i := 6) sc_l_hills.nd rfl (by first | exact Or.inl rfl | exact Or.inr rfl)) (by decide)) (qb_one (qs_if (qt_cmp (cmp_gt (hu2_of hr)) (q_mul (q_ix (q_v (pv 0)) (q_v (pv 6))) (q_v (pv 9))) (q_add (q_mul (q_v (pv 7)) (q_v (pv 9))) (q_mul (q_sub (q_v (pv 8)) (q_v (pv 7))) (q_bltn cs_abs rfl T.b_abs (by first | rfl | decide +kernel) (qa_cons (q_sub (q_v (pv 6)) (q_v (pv 1))) qa_nil)))) (nomark _) bool_gt) (qb_one (qs_expr (q_append (pv 5) (qa_cons (q_v (pv 6)) qa_nil)))) qb_nil)))
    (qb_one (qs_ret (q_v (pv 5))))))))
abbrev s_l_deep : Stmt := top 24
theorem sc_l_deep : FnScope N_l_deep [("thing" : Str), ("hand" : Str)] (defScope s_l_deep) := ⟨rfl, rfl, rfl, by decide +kernel, rfl, by decide +kernel, by decide +kernel⟩
theorem ok_l_deep {f : Addr} {fd : FuncData} (D_l_draw : DefOk P w K mg base 2 "_law_draw" [("hand" : Str), ("many" : Str)] g_l_draw) (Fn : Fun K "_law_deep" "_law_deep" s_l_deep f fd) (hm : mg "_law_deep" = some (.ref f)) (T : Txt K mg) : DefOk P w K mg base 3 "_law_deep" [("thing" : Str), ("hand" : Str)] g_l_deep := by
  refine def_ok (N := N_l_deep) (m := m_l_deep) Fn hm (Fn.binds (ps := [("thing" : Str), ("hand" : Str)]) fun _ _ _ _ _ _ us hl => match us, hl with | [_, _], _ => rfl) sc_l_deep (by decide) fun cdv A outer s H E hr tk => ?_
  exact (qb_cons (qs_for (js := [2]) (passes_of rfl) rfl (qi_range1 rfl T.b_range (qa_cons (q_callD (j := 2) D_l_draw hr (by decide) rfl tk (qa_cons (q_v (pv 1)) (qa_cons q_int qa_nil))) qa_nil)) (qg_name (pg_name (i := 2) sc_l_deep.nd rfl (by first | exact Or.inl rfl | exact Or.inr rfl)) (by decide)) (qb_one (qs_set (ps_set (i := 0) sc_l_deep.nd rfl (by first | exact Or.inl rfl | exact Or.inr rfl) (by exact (q_if (qt_cmp (cmp_eq (hu2_of hr)) (q_callD (j := 2) D_l_draw hr (by decide) rfl tk (qa_cons (q_v (pv 1)) (qa_cons q_int qa_nil))) q_int (nomark _) bool_eq) (q_list (qa_cons (q_v (pv 0)) qa_nil)) (q_tuple (qa_cons (q_v (pv 0)) (qa_cons q_str qa_nil)))))) (fun _ _ _ h => h))))
    (qb_one (qs_ret (q_v (pv 0)))))
abbrev s_p_raw_sees : Stmt := top 16
theorem sc_p_raw_sees : FnScope N_p_raw_sees [("line" : Str), ("one" : Str), ("other" : Str), ("eye" : Str), ("mark" : Str)] (defScope s_p_raw_sees) := ⟨rfl, rfl, rfl, by decide +kernel, rfl, by decide +kernel, by decide +kernel⟩
theorem ok_p_raw_sees {f : Addr} {fd : FuncData}  (Fn : Fun K "raw_sees" "raw_sees" s_p_raw_sees f fd) (hm : mg "raw_sees" = some (.ref f)) (T : Txt K mg) : DefOk P w K mg base 2 "raw_sees" [("line" : Str), ("one" : Str), ("other" : Str), ("eye" : Str), ("mark" : Str)] g_p_raw_sees := by
  refine def_ok (N := N_p_raw_sees) (m := m_p_raw_sees) Fn hm (Fn.binds (ps := [("line" : Str), ("one" : Str), ("other" : Str), ("eye" : Str), ("mark" : Str)]) fun _ _ _ _ _ _ us hl => match us, hl with | [_, _, _, _, _], _ => rfl) sc_p_raw_sees (by decide) fun cdv A outer s H E hr tk => ?_
  exact (qb_cons (qs_par (i := 6) (j := 7) rfl sc_p_raw_sees.nd rfl rfl (by decide) rfl rfl (q_bltn (cs_min rfl (hu2_of hr)) rfl T.b_min (by first | rfl | decide +kernel) (qa_cons (q_v (pv 1)) (qa_cons (q_v (pv 2)) qa_nil))) (q_bltn (cs_max rfl (hu2_of hr)) rfl T.b_max (by first | rfl | decide +kernel) (qa_cons (q_v (pv 1)) (qa_cons (q_v (pv 2)) qa_nil))) rfl)
    (qb_cons (qs_par (i := 8) (j := 9) rfl sc_p_raw_sees.nd rfl rfl (by decide) rfl rfl (q_add (q_ix (q_v (pv 0)) (q_v (pv 1))) (q_v (pv 3))) (q_add (q_ix (q_v (pv 0)) (q_v (pv 2))) (q_v (pv 4))) rfl)
    (qb_cons (qs_for (js := [5]) (passes_of rfl) rfl (qi_range2 rfl T.b_range (qa_cons (q_add (q_v (pv 6)) q_int) (qa_cons (q_v (pv 7)) qa_nil))) (qg_name (pg_name (i := 5) sc_p_raw_sees.nd rfl (by first | exact Or.inl rfl | exact Or.inr rfl)) (by decide)) (qb_cons (qs_set (ps_set (i := 10) sc_p_raw_sees.nd rfl (by first | exact Or.inl rfl | exact Or.inr rfl) (by exact (q_bltn cs_abs rfl T.b_abs (by first | rfl | decide +kernel) (qa_cons (q_sub (q_v (pv 5)) (q_v (pv 1))) qa_nil)))) (fun _ _ _ h => h))
    (qb_one (qs_if (qt_cmp (cmp_gt (hu2_of hr)) (q_mul (q_ix (q_v (pv 0)) (q_v (pv 5))) (q_sub (q_v (pv 7)) (q_v (pv 6)))) (q_add (q_mul (q_v (pv 8)) (q_sub (q_sub (q_v (pv 7)) (q_v (pv 6))) (q_v (pv 10)))) (q_mul (q_v (pv 9)) (q_v (pv 10)))) (nomark _) bool_gt) (qb_one (qs_ret q_bl)) qb_nil))))
    (qb_one (qs_ret q_bl)))))
abbrev s_p_is_hidden_told : Stmt := top 18
theorem sc_p_is_hidden_told : FnScope N_p_is_hidden_told [("line" : Str), ("one" : Str), ("other" : Str), ("eye" : Str), ("thing" : Str)] (defScope s_p_is_hidden_told) := ⟨rfl, rfl, rfl, by decide +kernel, rfl, by decide +kernel, by decide +kernel⟩
theorem ok_p_is_hidden_told {f : Addr} {fd : FuncData} (D_p_check_line : DefOk P w K mg base 5 "check_line" [("thing" : Str)] g_p_check_line) (D_p_check_place : DefOk P w K mg base 5 "check_place" [("line" : Str), ("place" : Str)] g_p_check_place) (D_p_check_number : DefOk P w K mg base 4 "check_number" [("thing" : Str), ("least" : Str), ("most" : Str)] g_p_check_number) (D_p_raw_sees : DefOk P w K mg base 2 "raw_sees" [("line" : Str), ("one" : Str), ("other" : Str), ("eye" : Str), ("mark" : Str)] g_p_raw_sees) (D_p_is_within : DefOk P w K mg base 3 "is_within" [("thing" : Str), ("least" : Str), ("most" : Str)] g_p_is_within) (Fn : Fun K "is_hidden_told" "is_hidden_told" s_p_is_hidden_told f fd) (hm : mg "is_hidden_told" = some (.ref f)) (T : Txt K mg) : DefOk P w K mg base 6 "is_hidden_told" [("line" : Str), ("one" : Str), ("other" : Str), ("eye" : Str), ("thing" : Str)] g_p_is_hidden_told := by
  refine def_ok (N := N_p_is_hidden_told) (m := m_p_is_hidden_told) Fn hm (Fn.binds (ps := [("line" : Str), ("one" : Str), ("other" : Str), ("eye" : Str), ("thing" : Str)]) fun _ _ _ _ _ _ us hl => match us, hl with | [_, _, _, _, _], _ => rfl) sc_p_is_hidden_told (by decide) fun cdv A outer s H E hr tk => ?_
  exact (qb_cons (qs_expr (q_callD (j := 5) D_p_check_line hr (by decide) rfl tk (qa_cons (q_v (pv 0)) qa_nil)))
    (qb_cons (qs_expr (q_callD (j := 5) D_p_check_place hr (by decide) rfl tk (qa_cons (q_v (pv 0)) (qa_cons (q_v (pv 1)) qa_nil))))
    (qb_cons (qs_expr (q_callD (j := 5) D_p_check_place hr (by decide) rfl tk (qa_cons (q_v (pv 0)) (qa_cons (q_v (pv 2)) qa_nil))))
    (qb_cons (qs_expr (q_callD (j := 5) D_p_check_number hr (by decide) rfl tk (qa_cons (q_v (pv 3)) (qa_cons q_int (qa_cons (q_glob_MOST_HIGH T rfl) qa_nil)))))
    (qb_cons (qs_if (PW.pt (qw_or (qt_not (qt_truth (q_isi isi_tuple rfl T.b_isinstance (by first | rfl | decide +kernel) (q_v (pv 4)) rfl T.b_tuple (by first | rfl | decide +kernel)))) (qw_or (qt_cmp (cmp_notIn (hu2_of hr)) (q_bltn cs_len rfl T.b_len (by first | rfl | decide +kernel) (qa_cons (q_v (pv 4)) qa_nil)) (q_tuple (qa_cons q_int (qa_cons q_int qa_nil))) (by with_unfolding_all rfl) (bool_in true)) (qw_or1 (qt_not (qt_truth (q_isi isi_str rfl T.b_isinstance (by first | rfl | decide +kernel) (q_ix (q_v (pv 4)) q_int) rfl T.b_str (by first | rfl | decide +kernel)))))))) (qb_one (qs_ret q_bl)) qb_nil)
    (qb_cons (qs_if (qt_cmp (cmp_eq (hu2_of hr)) (q_bltn cs_len rfl T.b_len (by first | rfl | decide +kernel) (qa_cons (q_v (pv 4)) qa_nil)) q_int (nomark _) bool_eq) (qb_one (qs_ret (q_and (q_cmp (cmp_eq (hu2_of hr)) (q_ix (q_v (pv 4)) q_int) q_str (nomark _)) (q_one (q_callD (j := 5) D_p_raw_sees hr (by decide) rfl tk (qa_cons (q_v (pv 0)) (qa_cons (q_v (pv 1)) (qa_cons (q_v (pv 2)) (qa_cons (q_v (pv 3)) (qa_cons q_int qa_nil)))))))))) qb_nil)
    (qb_cons (qs_if (PW.pt (qw_or (qt_cmp (cmp_ne (hu2_of hr)) (q_ix (q_v (pv 4)) q_int) q_str (nomark _) bool_ne) (qw_or1 (qt_not (qt_truth (q_callD (j := 5) D_p_is_within hr (by decide) rfl tk (qa_cons (q_ix (q_v (pv 4)) q_int) (qa_cons (q_add (q_bltn (cs_min rfl (hu2_of hr)) rfl T.b_min (by first | rfl | decide +kernel) (qa_cons (q_v (pv 1)) (qa_cons (q_v (pv 2)) qa_nil))) q_int) (qa_cons (q_sub (q_bltn (cs_max rfl (hu2_of hr)) rfl T.b_max (by first | rfl | decide +kernel) (qa_cons (q_v (pv 1)) (qa_cons (q_v (pv 2)) qa_nil))) q_int) qa_nil))))))))) (qb_one (qs_ret q_bl)) qb_nil)
    (qb_cons (qs_par (i := 5) (j := 6) rfl sc_p_is_hidden_told.nd rfl rfl (by decide) rfl rfl (q_bltn cs_abs rfl T.b_abs (by first | rfl | decide +kernel) (qa_cons (q_sub (q_ix (q_v (pv 4)) q_int) (q_v (pv 1))) qa_nil)) (q_bltn cs_abs rfl T.b_abs (by first | rfl | decide +kernel) (qa_cons (q_sub (q_v (pv 2)) (q_v (pv 1))) qa_nil)) rfl)
    (qb_one (qs_ret (q_cmp (cmp_gt (hu2_of hr)) (q_mul (q_ix (q_v (pv 0)) (q_ix (q_v (pv 4)) q_int)) (q_v (pv 6))) (q_add (q_mul (q_add (q_ix (q_v (pv 0)) (q_v (pv 1))) (q_v (pv 3))) (q_sub (q_v (pv 6)) (q_v (pv 5)))) (q_mul (q_ix (q_v (pv 0)) (q_v (pv 2))) (q_v (pv 5)))) (nomark _))))))))))))
abbrev s_p_sees : Stmt := top 15
theorem sc_p_sees : FnScope N_p_sees [("line" : Str), ("one" : Str), ("other" : Str), ("eye" : Str)] (defScope s_p_sees) := ⟨rfl, rfl, rfl, by decide +kernel, rfl, by decide +kernel, by decide +kernel⟩
theorem ok_p_sees {f : Addr} {fd : FuncData} (D_p_check_line : DefOk P w K mg base 5 "check_line" [("thing" : Str)] g_p_check_line) (D_p_check_place : DefOk P w K mg base 5 "check_place" [("line" : Str), ("place" : Str)] g_p_check_place) (D_p_check_number : DefOk P w K mg base 4 "check_number" [("thing" : Str), ("least" : Str), ("most" : Str)] g_p_check_number) (D_p_raw_sees : DefOk P w K mg base 2 "raw_sees" [("line" : Str), ("one" : Str), ("other" : Str), ("eye" : Str), ("mark" : Str)] g_p_raw_sees) (Fn : Fun K "sees" "sees" s_p_sees f fd) (hm : mg "sees" = some (.ref f)) (T : Txt K mg) : DefOk P w K mg base 6 "sees" [("line" : Str), ("one" : Str), ("other" : Str), ("eye" : Str)] g_p_sees := by
  refine def_ok (N := N_p_sees) (m := m_p_sees) Fn hm (Fn.binds (ps := [("line" : Str), ("one" : Str), ("other" : Str), ("eye" : Str)]) fun _ _ _ _ _ _ us hl => match us, hl with | [_, _, _, _], _ => rfl) sc_p_sees (by decide) fun cdv A outer s H E hr tk => ?_
  exact (qb_cons (qs_expr (q_callD (j := 5) D_p_check_line hr (by decide) rfl tk (qa_cons (q_v (pv 0)) qa_nil)))
    (qb_cons (qs_expr (q_callD (j := 5) D_p_check_place hr (by decide) rfl tk (qa_cons (q_v (pv 0)) (qa_cons (q_v (pv 1)) qa_nil))))
    (qb_cons (qs_expr (q_callD (j := 5) D_p_check_place hr (by decide) rfl tk (qa_cons (q_v (pv 0)) (qa_cons (q_v (pv 2)) qa_nil))))
    (qb_cons (qs_expr (q_callD (j := 5) D_p_check_number hr (by decide) rfl tk (qa_cons (q_v (pv 3)) (qa_cons q_int (qa_cons (q_glob_MOST_HIGH T rfl) qa_nil)))))
    (qb_one (qs_ret (q_callD (j := 5) D_p_raw_sees hr (by decide) rfl tk (qa_cons (q_v (pv 0)) (qa_cons (q_v (pv 1)) (qa_cons (q_v (pv 2)) (qa_cons (q_v (pv 3)) (qa_cons q_int qa_nil))))))))))))
abbrev s_l_right : Stmt := top 32
theorem sc_l_right : FnScope N_l_right [("hand" : Str)] (defScope s_l_right) := ⟨rfl, rfl, rfl, by decide +kernel, rfl, by decide +kernel, by decide +kernel⟩
theorem ok_l_right {f : Addr} {fd : FuncData} (D_l_line : DefOk P w K mg base 4 "_law_line" [("hand" : Str), ("most" : Str)] g_l_line) (D_l_eye : DefOk P w K mg base 4 "_law_eye" [("hand" : Str)] g_l_eye) (D_l_draw : DefOk P w K mg base 2 "_law_draw" [("hand" : Str), ("many" : Str)] g_l_draw) (D_l_hills : DefOk P w K mg base 2 "_law_hills" [("line" : Str), ("one" : Str), ("other" : Str), ("eye" : Str)] g_l_hills) (D_l_deep : DefOk P w K mg base 3 "_law_deep" [("thing" : Str), ("hand" : Str)] g_l_deep) (D_l_is : DefG P w K mg base 2 "_law_is" [("mine" : Str), ("yours" : Str)] g_l_is) (D_l_some : DefOk P w K mg base 3 "_law_some" [("hand" : Str), ("things" : Str)] g_l_some) (D_p_is_hidden_told : DefOk P w K mg base 6 "is_hidden_told" [("line" : Str), ("one" : Str), ("other" : Str), ("eye" : Str), ("thing" : Str)] g_p_is_hidden_told) (D_p_hidden_told : DefOk P w K mg base 6 "hidden_told" [("line" : Str), ("one" : Str), ("other" : Str), ("eye" : Str)] g_p_hidden_told) (D_p_sees : DefOk P w K mg base 6 "sees" [("line" : Str), ("one" : Str), ("other" : Str), ("eye" : Str)] g_p_sees) (Fn : Fun K "_law_right" "_law_right" s_l_right f fd) (hm : mg "_law_right" = some (.ref f)) (T : Txt K mg) : DefG P w K mg base 7 "_law_right" [("hand" : Str)] g_l_right := by
  refine defG (N := N_l_right) (m := m_l_right) Fn hm (Fn.binds (ps := [("hand" : Str)]) fun _ _ _ _ _ _ us hl => match us, hl with | [_], _ => rfl) sc_l_right (by decide) fun cdv A outer s H E hr hgd tk => ?_
  exact (qb_cons (qs_tgt (js := [3, 4]) (ps_asg (by exact (q_tuple (qa_cons (q_callD (j := 6) D_l_line hr (by decide) rfl tk (qa_cons (q_v (pv 0)) (qa_cons q_int qa_nil))) (qa_cons (q_callD (j := 6) D_l_eye hr (by decide) rfl tk (qa_cons (q_v (pv 0)) qa_nil)) qa_nil)))) (by exact (qg_tup rfl (qgs_cons (qg_name (pg_name (i := 3) sc_l_right.nd rfl (by first | exact Or.inl rfl | exact Or.inr rfl)) (by decide)) (qgs_cons (qg_name (pg_name (i := 4) sc_l_right.nd rfl (by first | exact Or.inl rfl | exact Or.inr rfl)) (by decide)) qgs_nil)) rfl))))
    (qb_cons (qs_set (ps_set (i := 1) sc_l_right.nd rfl (by first | exact Or.inl rfl | exact Or.inr rfl) (by exact (q_bltn cs_len rfl T.b_len (by first | rfl | decide +kernel) (qa_cons (q_v (pv 3)) qa_nil)))) (fun _ _ _ h => h))
    (qb_cons (qs_for (js := [2]) (passes_of rfl) rfl (qi_range1 rfl T.b_range (qa_cons q_int qa_nil)) (qg_name (pg_name (i := 2) sc_l_right.nd rfl (by first | exact Or.inl rfl | exact Or.inr rfl)) (by decide)) (qb_cons (qs_tgt (js := [5, 6]) (ps_asg (by exact (q_tuple (qa_cons (q_callD (j := 6) D_l_draw hr (by decide) rfl tk (qa_cons (q_v (pv 0)) (qa_cons (q_v (pv 1)) qa_nil))) (qa_cons (q_callD (j := 6) D_l_draw hr (by decide) rfl tk (qa_cons (q_v (pv 0)) (qa_cons (q_v (pv 1)) qa_nil))) qa_nil)))) (by exact (qg_tup rfl (qgs_cons (qg_name (pg_name (i := 5) sc_l_right.nd rfl (by first | exact Or.inl rfl | exact Or.inr rfl)) (by decide)) (qgs_cons (qg_name (pg_name (i := 6) sc_l_right.nd rfl (by first | exact Or.inl rfl | exact Or.inr rfl)) (by decide)) qgs_nil)) rfl))))
    (qb_one (qs_if (qt_cmp (cmp_ne (hu2_of hr)) (q_v (pv 5)) (q_v (pv 6)) (nomark _) bool_ne) (qb_cons (qs_set (ps_set (i := 7) sc_l_right.nd rfl (by first | exact Or.inl rfl | exact Or.inr rfl) (by exact (q_callD (j := 6) D_l_hills hr (by decide) rfl tk (qa_cons (q_v (pv 3)) (qa_cons (q_v (pv 5)) (qa_cons (q_v (pv 6)) (qa_cons (q_v (pv 4)) qa_nil))))))) (fun _ _ _ h => h))
    (qb_cons (qs_set (ps_set (i := 8) sc_l_right.nd rfl (by first | exact Or.inl rfl | exact Or.inr rfl) (by exact (q_if (qt_cmp (cmp_eq (hu2_of hr)) (q_bltn cs_len rfl T.b_len (by first | rfl | decide +kernel) (qa_cons (q_v (pv 7)) qa_nil)) q_int (nomark _) bool_eq) (q_tuple (qa_cons q_str qa_nil)) (q_tuple (qa_cons q_str (qa_cons (q_ix (q_v (pv 7)) q_int) qa_nil)))))) (fun _ _ _ h => h))
    (qb_cons (qs_if (qt_not (qt_truth (q_callG (j := 6) D_l_is hgd hr (by decide) rfl tk (qa_cons (q_list (qa_cons (q_callD (j := 6) D_p_hidden_told hr (by decide) rfl tk (qa_cons (q_v (pv 3)) (qa_cons (q_v (pv 5)) (qa_cons (q_v (pv 6)) (qa_cons (q_v (pv 4)) qa_nil))))) (qa_cons (q_callD (j := 6) D_p_sees hr (by decide) rfl tk (qa_cons (q_v (pv 3)) (qa_cons (q_v (pv 5)) (qa_cons (q_v (pv 6)) (qa_cons (q_v (pv 4)) qa_nil))))) qa_nil))) (qa_cons (q_list (qa_cons (q_v (pv 8)) (qa_cons (q_cmp (cmp_eq (hu2_of hr)) (q_bltn cs_len rfl T.b_len (by first | rfl | decide +kernel) (qa_cons (q_v (pv 7)) qa_nil)) q_int (nomark _)) qa_nil))) qa_nil))))) (qb_one (qs_ret q_bl)) qb_nil)
    (qb_cons (qs_if (PW.pt (qw_and (qt_cmp (cmp_eq (hu2_of hr)) (q_bltn cs_abs rfl T.b_abs (by first | rfl | decide +kernel) (qa_cons (q_sub (q_v (pv 5)) (q_v (pv 6))) qa_nil)) q_int (nomark _) bool_eq) (qw_and1 (qt_cmp (cmp_gt (hu2_of hr)) (q_bltn cs_len rfl T.b_len (by first | rfl | decide +kernel) (qa_cons (q_v (pv 7)) qa_nil)) q_int (nomark _) bool_gt)))) (qb_one (qs_ret q_bl)) qb_nil)
    (qb_cons (qs_for (js := [9]) (passes_of rfl) rfl (qi_range1 rfl T.b_range (qa_cons (q_v (pv 1)) qa_nil)) (qg_name (pg_name (i := 9) sc_l_right.nd rfl (by first | exact Or.inl rfl | exact Or.inr rfl)) (by decide)) (qb_one (qs_if (qt_not (qt_truth (q_callG (j := 6) D_l_is hgd hr (by decide) rfl tk (qa_cons (q_callD (j := 6) D_p_is_hidden_told hr (by decide) rfl tk (qa_cons (q_v (pv 3)) (qa_cons (q_v (pv 5)) (qa_cons (q_v (pv 6)) (qa_cons (q_v (pv 4)) (qa_cons (q_tuple (qa_cons q_str (qa_cons (q_v (pv 9)) qa_nil))) qa_nil)))))) (qa_cons (q_cmp (cmp_in (hu2_of hr)) (q_v (pv 9)) (q_v (pv 7)) (by with_unfolding_all rfl)) qa_nil))))) (qb_one (qs_ret q_bl)) qb_nil)))
    (qb_cons (qs_if (qt_not (qt_truth (q_callG (j := 6) D_l_is hgd hr (by decide) rfl tk (qa_cons (q_callD (j := 6) D_p_is_hidden_told hr (by decide) rfl tk (qa_cons (q_v (pv 3)) (qa_cons (q_v (pv 5)) (qa_cons (q_v (pv 6)) (qa_cons (q_v (pv 4)) (qa_cons (q_tuple (qa_cons q_str qa_nil)) qa_nil)))))) (qa_cons (q_cmp (cmp_eq (hu2_of hr)) (q_bltn cs_len rfl T.b_len (by first | rfl | decide +kernel) (qa_cons (q_v (pv 7)) qa_nil)) q_int (nomark _)) qa_nil))))) (qb_one (qs_ret q_bl)) qb_nil)
    (qb_cons (qs_setLc (i := 10) (own := [(("at" : Str), 13), (("height" : Str), 14)]) rfl sc_l_right.nd rfl rfl rfl (qi_enum rfl T.b_enumerate (qa_cons (q_v (pv 3)) qa_nil)) (blkOk_by (by rfl)) (fun _ _ _ _ _ => (qg_tup rfl (qgs_cons (qg_name (pg_name (i := 13) sc_l_right.nd rfl (by first | exact Or.inl rfl | exact Or.inr rfl)) (by decide)) (qgs_cons (qg_name (pg_name (i := 14) sc_l_right.nd rfl (by first | exact Or.inl rfl | exact Or.inr rfl)) (by decide)) qgs_nil)) rfl)) (fun _ _ _ _ _ => qts_nil) (fun _ _ _ _ _ => (q_if (qt_cmp (cmp_notIn (hu2_of hr)) (q_v (pv 13)) (q_tuple (qa_cons (q_v (pv 5)) (qa_cons (q_v (pv 6)) qa_nil))) (by with_unfolding_all rfl) (bool_in true)) (q_bltn (cs_min rfl (hu2_of hr)) rfl T.b_min (by first | rfl | decide +kernel) (qa_cons (q_v (pv 14)) (qa_cons (q_ix (q_v (pv 3)) (q_v (pv 6))) qa_nil))) (q_v (pv 14)))))
    (qb_cons (qs_if (PW.pt (qw_and (qt_cmp (cmp_ge (hu2_of hr)) (q_add (q_ix (q_v (pv 3)) (q_v (pv 5))) (q_v (pv 4))) (q_ix (q_v (pv 3)) (q_v (pv 6))) (nomark _) bool_ge) (qw_and1 (qt_cmp (cmp_ne (hu2_of hr)) (q_callD (j := 6) D_p_hidden_told hr (by decide) rfl tk (qa_cons (q_bltnTy cs_tuple rfl T.b_tuple (by first | rfl | decide +kernel) (qa_cons (q_v (pv 10)) qa_nil)) (qa_cons (q_v (pv 5)) (qa_cons (q_v (pv 6)) (qa_cons (q_v (pv 4)) qa_nil))))) (q_tuple (qa_cons q_str qa_nil)) (nomark _) bool_ne)))) (qb_one (qs_ret q_bl)) qb_nil)
    (qb_cons (qs_set (ps_set (i := 11) sc_l_right.nd rfl (by first | exact Or.inl rfl | exact Or.inr rfl) (by exact (q_list (qa_cons q_str (qa_cons q_non (qa_cons q_int (qa_cons (q_tuple qa_nil) (qa_cons (q_list (qa_cons q_str qa_nil)) (qa_cons (q_tuple (qa_cons q_str (qa_cons q_int qa_nil))) (qa_cons (q_tuple (qa_cons q_str qa_nil)) (qa_cons (q_tuple (qa_cons q_str (qa_cons (q_v (pv 1)) qa_nil))) (qa_cons (q_tuple (qa_cons q_str (qa_cons (q_neg q_int) qa_nil))) (qa_cons (q_tuple (qa_cons q_str (qa_cons q_int qa_nil))) (qa_cons q_dict0 qa_nil)))))))))))))) (fun _ _ _ h => h))
    (qb_cons (qs_set (ps_set (i := 12) sc_l_right.nd rfl (by first | exact Or.inl rfl | exact Or.inr rfl) (by exact (q_callD (j := 6) D_l_deep hr (by decide) rfl tk (qa_cons (q_callD (j := 6) D_l_some hr (by decide) rfl tk (qa_cons (q_v (pv 0)) (qa_cons (q_v (pv 11)) qa_nil))) (qa_cons (q_v (pv 0)) qa_nil))))) (fun _ _ _ h => h))
    (qb_one (qs_if (qt_not (qt_truth (q_callG (j := 6) D_l_is hgd hr (by decide) rfl tk (qa_cons (q_callD (j := 6) D_p_is_hidden_told hr (by decide) rfl tk (qa_cons (q_v (pv 3)) (qa_cons (q_v (pv 5)) (qa_cons (q_v (pv 6)) (qa_cons (q_v (pv 4)) (qa_cons (q_v (pv 12)) qa_nil)))))) (qa_cons q_bl qa_nil))))) (qb_one (qs_ret q_bl)) qb_nil)))))))))))) qb_nil))))
    (qb_one (qs_ret q_bl)))))
abbrev s_law_main : Stmt := top 33
theorem sc_law_main : FnScope N_law_main [("script" : Str)] (defScope s_law_main) := ⟨rfl, rfl, rfl, by decide +kernel, rfl, by decide +kernel, by decide +kernel⟩
theorem okf_law_main {f : Addr} {fd : FuncData} (D_l_hand : DefOk P w K mg base 2 "_law_hand" [("script" : Str)] g_l_hand) (D_l_is : DefG P w K mg base 2 "_law_is" [("mine" : Str), ("yours" : Str)] g_l_is) (D_l_no_line : DefOk P w K mg base 4 "_law_no_line" [("hand" : Str)] g_l_no_line) (D_l_no_place : DefOk P w K mg base 4 "_law_no_place" [("hand" : Str), ("many" : Str)] g_l_no_place) (D_l_no_eye : DefOk P w K mg base 4 "_law_no_eye" [("hand" : Str)] g_l_no_eye) (D_p_hidden_told : DefOk P w K mg base 6 "hidden_told" [("line" : Str), ("one" : Str), ("other" : Str), ("eye" : Str)] g_p_hidden_told) (Dt : ToldD P w K mg base 6 N_l_error "_law_error" "call" t_told) (D_l_right : DefG P w K mg base 7 "_law_right" [("hand" : Str)] g_l_right) (D_p_is_hidden_told : DefOk P w K mg base 6 "is_hidden_told" [("line" : Str), ("one" : Str), ("other" : Str), ("eye" : Str), ("thing" : Str)] g_p_is_hidden_told) {ctop : Value} (XT : ExcTab K mg ctop xnames) {c Pt : Addr} (TB : LamX.TabB base mg c Pt) (hT : (Pt, (envOfC "law" (defScope s_law_main) 0 0 .none).qual ++ "<lambda>") ∈ Tab.T) (hTu : ∀ p ∈ Tab.T, p.1 = Pt → p.2 = (envOfC "law" (defScope s_law_main) 0 0 .none).qual ++ "<lambda>") (Fn : FunC K "law" s_law_main f fd c) (hm : mg "law" = some (.ref f)) (T : Txt K mg) : FnG P w K mg base 9 f fd [("script" : Str)] (SpD K mg 1 g_law_main) := by
  refine okG_defC (N := N_law_main) (m := m_law_main) Fn sc_law_main (by decide) fun A outer s H E hr hgd tk => ?_
  exact (qb_cons (qs_own (ps_set (i := 1) sc_law_main.nd rfl (by first | exact Or.inl rfl | exact Or.inr rfl) (by exact (q_callD (j := 8) D_l_hand hr (by decide) rfl tk (qa_cons (q_v (pv 0)) qa_nil)))) (fun _ _ _ h => h))
    (qb_cons (qs_if (qt_not (qt_truth (q_bltn (cs_all rfl) rfl T.b_all (by first | rfl | decide +kernel) (qa_cons (q_lc (own := [(("turn" : Str), 7)]) rfl sc_law_main.nd (qi_range1 rfl T.b_range (qa_cons q_int qa_nil)) (blkOk_by (by rfl)) (fun _ _ _ _ _ => (qg_name (pg_name (i := 7) sc_law_main.nd rfl (by first | exact Or.inl rfl | exact Or.inr rfl)) (by decide))) (fun _ _ _ _ _ => qts_nil) (fun _ _ _ _ _ => (q_callG (j := 8) D_l_right hgd hr (by decide) rfl LamX.takes0 (qa_cons (q_v (pv 1)) qa_nil)))) qa_nil)))) (qb_one (qs_ret q_bl)) qb_nil)
    (qb_cons (qs_tgt (js := [4, 5, 6]) (ps_asg (by exact (q_tuple (qa_cons (q_callD (j := 8) D_l_no_line hr (by decide) rfl tk (qa_cons (q_v (pv 1)) qa_nil)) (qa_cons (q_callD (j := 8) D_l_no_place hr (by decide) rfl tk (qa_cons (q_v (pv 1)) (qa_cons q_int qa_nil))) (qa_cons (q_callD (j := 8) D_l_no_eye hr (by decide) rfl tk (qa_cons (q_v (pv 1)) qa_nil)) qa_nil))))) (by exact (qg_tup rfl (qgs_cons (qg_name (pg_name (i := 4) sc_law_main.nd rfl (by first | exact Or.inl rfl | exact Or.inr rfl)) (by decide)) (qgs_cons (qg_name (pg_name (i := 5) sc_law_main.nd rfl (by first | exact Or.inl rfl | exact Or.inr rfl)) (by decide)) (qgs_cons (qg_name (pg_name (i := 6) sc_law_main.nd rfl (by first | exact Or.inl rfl | exact Or.inr rfl)) (by decide)) qgs_nil))) rfl))))
    (qb_cons (qs_if (qt_not (qt_truth (q_isX XT rfl T.b_isinstance (q_toldD Dt rfl TB rfl hT hTu hr (by decide) rfl (LamX.lamS_by (by rfl)) rfl (fun _ _ _ _ _ => rfl) (fun _ _ _ _ _ _ _ _ hr2 tk2 => (q_callD (j := 6) D_p_hidden_told (room_any hr2) (by decide) rfl tk2 (qa_cons (q_v (pv 4)) (qa_cons (q_v (pv 5)) (qa_cons (q_v (pv 5)) (qa_cons (q_v (pv 6)) qa_nil))))))) rfl (by decide) (by decide)))) (qb_one (qs_ret q_bl)) qb_nil)
    (qb_cons (qs_if (qt_not (qt_truth (q_isX XT rfl T.b_isinstance (q_toldD Dt rfl TB rfl hT hTu hr (by decide) rfl (LamX.lamS_by (by rfl)) rfl (fun _ _ _ _ _ => rfl) (fun _ _ _ _ _ _ _ _ hr2 tk2 => (q_callD (j := 6) D_p_hidden_told (room_any hr2) (by decide) rfl tk2 (qa_cons (q_tuple (qa_cons q_int (qa_cons q_int (qa_cons q_int qa_nil)))) (qa_cons (q_v (pv 5)) (qa_cons q_int (qa_cons (q_v (pv 6)) qa_nil))))))) rfl (by decide) (by decide)))) (qb_one (qs_ret q_bl)) qb_nil)
    (qb_cons (qs_if (qt_not (qt_truth (q_isX XT rfl T.b_isinstance (q_toldD Dt rfl TB rfl hT hTu hr (by decide) rfl (LamX.lamS_by (by rfl)) rfl (fun _ _ _ _ _ => rfl) (fun _ _ _ _ _ _ _ _ hr2 tk2 => (q_callD (j := 6) D_p_hidden_told (room_any hr2) (by decide) rfl tk2 (qa_cons (q_tuple (qa_cons q_int (qa_cons q_int (qa_cons q_int qa_nil)))) (qa_cons q_int (qa_cons (q_v (pv 5)) (qa_cons (q_v (pv 6)) qa_nil))))))) rfl (by decide) (by decide)))) (qb_one (qs_ret q_bl)) qb_nil)
    (qb_cons (qs_if (qt_not (qt_truth (q_isX XT rfl T.b_isinstance (q_toldD Dt rfl TB rfl hT hTu hr (by decide) rfl (LamX.lamS_by (by rfl)) rfl (fun _ _ _ _ _ => rfl) (fun _ _ _ _ _ _ _ _ hr2 tk2 => (q_callD (j := 6) D_p_hidden_told (room_any hr2) (by decide) rfl tk2 (qa_cons (q_tuple (qa_cons q_int (qa_cons q_int (qa_cons q_int qa_nil)))) (qa_cons q_int (qa_cons q_int (qa_cons (q_v (pv 6)) qa_nil))))))) rfl (by decide) (by decide)))) (qb_one (qs_ret q_bl)) qb_nil)
    (qb_cons (qs_if (qt_not (qt_truth (q_isX XT rfl T.b_isinstance (q_toldD Dt rfl TB rfl hT hTu hr (by decide) rfl (LamX.lamS_by (by rfl)) rfl (fun _ _ _ _ _ => rfl) (fun _ _ _ _ _ _ _ _ hr2 tk2 => (q_callD (j := 6) D_p_is_hidden_told (room_any hr2) (by decide) rfl tk2 (qa_cons (q_v (pv 4)) (qa_cons q_int (qa_cons q_int (qa_cons q_int (qa_cons q_non qa_nil)))))))) rfl (by decide) (by decide)))) (qb_one (qs_ret q_bl)) qb_nil)
    (qb_cons (qs_set (ps_set (i := 2) sc_law_main.nd rfl (by first | exact Or.inl rfl | exact Or.inr rfl) (by exact (q_tuple (qa_cons q_int (qa_cons q_int (qa_cons q_int (qa_cons q_int qa_nil))))))) (fun _ _ _ h => h))
    (qb_cons (qs_own (ps_set (i := 3) sc_law_main.nd rfl (by first | exact Or.inl rfl | exact Or.inr rfl) (by exact (q_list (qa_cons (q_callD (j := 8) D_p_hidden_told hr (by decide) rfl tk (qa_cons (q_v (pv 2)) (qa_cons q_int (qa_cons q_int (qa_cons q_int qa_nil))))) (qa_cons (q_callD (j := 8) D_p_hidden_told hr (by decide) rfl tk (qa_cons (q_v (pv 2)) (qa_cons q_int (qa_cons q_int (qa_cons q_int qa_nil))))) (qa_cons (q_callD (j := 8) D_p_hidden_told hr (by decide) rfl tk (qa_cons (q_v (pv 2)) (qa_cons q_int (qa_cons q_int (qa_cons q_int qa_nil))))) qa_nil)))))) (fun _ _ _ h => h))
    (qb_cons (qs_expr (q_append (pv 3) (qa_cons (q_callD (j := 8) D_p_hidden_told hr (by decide) rfl tk (qa_cons (q_tuple (qa_cons q_int (qa_cons q_int (qa_cons q_int qa_nil)))) (qa_cons q_int (qa_cons q_int (qa_cons q_int qa_nil))))) qa_nil)))
    (qb_one (qs_ret (q_callG (j := 8) D_l_is hgd hr (by decide) rfl tk (qa_cons (q_mv (pv 3)) (qa_cons (q_list (qa_cons (q_tuple (qa_cons q_str (qa_cons q_int qa_nil))) (qa_cons (q_tuple (qa_cons q_str (qa_cons q_int qa_nil))) (qa_cons (q_tuple (qa_cons q_str qa_nil)) (qa_cons (q_tuple (qa_cons q_str qa_nil)) qa_nil))))) qa_nil))))))))))))))))
end
end LW

namespace LW
open PySem PySem.Spec PyProof.Rows L2 PD

abbrev s_ini : Stmt := inClass (top 1) 0
theorem sc_ini : FnScope ["self"] ["self"] (defScope s_ini) := ⟨rfl, rfl, rfl, by decide +kernel, rfl, by decide +kernel, by decide +kernel⟩
theorem ini_at {K : PySem.W.Frag} {mg : Str → Option Value} {fI : Addr} {oc : Value} {od an : Option Addr} {osl : Array (Option Value)} {kV doc pm cdv ct : Value} (T : Txt K mg) (l : K.lookup fI = some ⟨oc, od, .func (PySem.W.fnOf "__init__" "LandError.__init__" (defArgs s_ini) (defBody s_ini) (defScope s_ini) .none kV doc pm an cdv ct), osl⟩) (c : PySem.W.codeIn K cdv "LandError.__init__" = true) (k : PySem.W.keepIn K (.ref fI) = true)
    (vV : PySem.W.findCls K (.type "ValueError") (.type "type") "__init__" = some (.val (.builtin "ValueError.__init__"))) : IniAt K mg fI := fun P w base => by
  have F := fun_mk (st := s_ini) l c k
  exact ⟨_, ini_ok F sc_ini fun cdv A outer s H => ⟨_, pss_one (ps_expr (pe_veinit rfl T.b_ValueError vV (pa_cons (pv 0) pa_nil))), fun D σ H h => h⟩, F.binds (ps := ["self"]) fun _ _ _ _ _ _ us hl => match us, hl with | [_], _ => rfl⟩
theorem law_at {l : PySem.W.OpenLaw} {w : World} {K : PySem.W.Frag} {mg : Str → Option Value} {h : Heap} {fa fI CL : Addr} {c0 p0 : Addr} (X : K.In h) (G : h.Ns mainGlobals mg) (hmg : mg "law" = some (.ref fa)) (T : Txt K mg) (F_l_hand : FunAt K mg "_law_hand" s_l_hand) (F_l_is : FunAt K mg "_law_is" s_l_is) (F_l_draw : FunAt K mg "_law_draw" s_l_draw) (F_l_some : FunAt K mg "_law_some" s_l_some) (F_l_no_line : FunAt K mg "_law_no_line" s_l_no_line) (F_l_no_place : FunAt K mg "_law_no_place" s_l_no_place) (F_l_no_eye : FunAt K mg "_law_no_eye" s_l_no_eye) (F_p_is_sized : FunAt K mg "is_sized" s_p_is_sized) (F_p_is_integer : FunAt K mg "is_integer" s_p_is_integer) (F_p_is_within : FunAt K mg "is_within" s_p_is_within) (F_p_is_line : FunAt K mg "is_line" s_p_is_line) (F_p_check_line : FunAt K mg "check_line" s_p_check_line) (F_p_check_number : FunAt K mg "check_number" s_p_check_number) (F_p_check_place : FunAt K mg "check_place" s_p_check_place) (F_p_hidden_told : FunAt K mg "hidden_told" s_p_hidden_told) (F_l_error : FunAt K mg "_law_error" s_l_error) (F_l_line : FunAt K mg "_law_line" s_l_line) (F_l_eye : FunAt K mg "_law_eye" s_l_eye) (F_l_hills : FunAt K mg "_law_hills" s_l_hills) (F_l_deep : FunAt K mg "_law_deep" s_l_deep) (F_p_raw_sees : FunAt K mg "raw_sees" s_p_raw_sees) (F_p_is_hidden_told : FunAt K mg "is_hidden_told" s_p_is_hidden_told) (F_p_sees : FunAt K mg "sees" s_p_sees) (F_l_right : FunAt K mg "_law_right" s_l_right) (F_law_main : FunCAt K mg h "law" s_law_main c0 p0) (t0 : h.get? p0 = some { cls := .none, data := .fields #[] })   (aL : PySem.W.nsIn K mainGlobals "LandError" = some (some (.ref CL))) (tI : PySem.W.typeIn K (.ref fI) = some (.type "function")) (I : IniAt K mg fI) {C_NoLine : Addr} (E_NoLine : ErrF K "NoLine" C_NoLine fI CL) {C_NoNumber : Addr} (E_NoNumber : ErrF K "NoNumber" C_NoNumber fI CL) (k_NoLine_NoLine : PySem.W.kitOne K (.ref C_NoLine) (.ref C_NoLine) = some true) (k_NoLine_NoNumber : PySem.W.kitOne K (.ref C_NoLine) (.ref C_NoNumber) = some false) (k_NoNumber_NoLine : PySem.W.kitOne K (.ref C_NoNumber) (.ref C_NoLine) = some false) (k_NoNumber_NoNumber : PySem.W.kitOne K (.ref C_NoNumber) (.ref C_NoNumber) = some true) (nl : noListIn K = true)
    (true_law : ∀ ns : List Int, ns.length ≤ 63 → ∃ outs, g_law_main [.dat (.list (ns.map PyData.int))] = .ok (.dat (.bool true)) outs) : LawG l w K 9 63 mg fa h := by
  letI tab : Tab := ⟨[(p0, (envOfC "law" (defScope s_law_main) 0 0 .none).qual ++ "<lambda>")]⟩
  have XT : ExcTab K mg (.ref CL) xnames := by
    have g_NoLine := PySem.W.mg_of X G E_NoLine.gC
    have g_NoNumber := PySem.W.mg_of X G E_NoNumber.gC
    refine ⟨fun n hn => ?_⟩
    simp only [xnames, List.mem_cons, List.not_mem_nil, or_false] at hn
    rcases hn with rfl | rfl
    · refine ⟨C_NoLine, g_NoLine, E_NoLine.gC, E_NoLine.exc, E_NoLine.exm, E_NoLine.ve, fun m hm => ?_⟩
      simp only [xnames, List.mem_cons, List.not_mem_nil, or_false] at hm
      rcases hm with rfl | rfl
      · exact ⟨C_NoLine, g_NoLine, k_NoLine_NoLine⟩
      · exact ⟨C_NoNumber, g_NoNumber, k_NoLine_NoNumber⟩
    · refine ⟨C_NoNumber, g_NoNumber, E_NoNumber.gC, E_NoNumber.exc, E_NoNumber.exm, E_NoNumber.ve, fun m hm => ?_⟩
      simp only [xnames, List.mem_cons, List.not_mem_nil, or_false] at hm
      rcases hm with rfl | rfl
      · exact ⟨C_NoLine, g_NoLine, k_NoNumber_NoLine⟩
      · exact ⟨C_NoNumber, g_NoNumber, k_NoNumber_NoNumber⟩
  obtain ⟨f_l_hand, fd_l_hand, m_l_hand, u_l_hand⟩ := F_l_hand
  obtain ⟨f_l_is, fd_l_is, m_l_is, u_l_is⟩ := F_l_is
  obtain ⟨f_l_draw, fd_l_draw, m_l_draw, u_l_draw⟩ := F_l_draw
  obtain ⟨f_l_some, fd_l_some, m_l_some, u_l_some⟩ := F_l_some
  obtain ⟨f_l_no_line, fd_l_no_line, m_l_no_line, u_l_no_line⟩ := F_l_no_line
  obtain ⟨f_l_no_place, fd_l_no_place, m_l_no_place, u_l_no_place⟩ := F_l_no_place
  obtain ⟨f_l_no_eye, fd_l_no_eye, m_l_no_eye, u_l_no_eye⟩ := F_l_no_eye
  obtain ⟨f_p_is_sized, fd_p_is_sized, m_p_is_sized, u_p_is_sized⟩ := F_p_is_sized
  obtain ⟨f_p_is_integer, fd_p_is_integer, m_p_is_integer, u_p_is_integer⟩ := F_p_is_integer
  obtain ⟨f_p_is_within, fd_p_is_within, m_p_is_within, u_p_is_within⟩ := F_p_is_within
  obtain ⟨f_p_is_line, fd_p_is_line, m_p_is_line, u_p_is_line⟩ := F_p_is_line
  obtain ⟨f_p_check_line, fd_p_check_line, m_p_check_line, u_p_check_line⟩ := F_p_check_line
  obtain ⟨f_p_check_number, fd_p_check_number, m_p_check_number, u_p_check_number⟩ := F_p_check_number
  obtain ⟨f_p_check_place, fd_p_check_place, m_p_check_place, u_p_check_place⟩ := F_p_check_place
  obtain ⟨f_p_hidden_told, fd_p_hidden_told, m_p_hidden_told, u_p_hidden_told⟩ := F_p_hidden_told
  obtain ⟨f_l_error, fd_l_error, m_l_error, u_l_error⟩ := F_l_error
  obtain ⟨f_l_line, fd_l_line, m_l_line, u_l_line⟩ := F_l_line
  obtain ⟨f_l_eye, fd_l_eye, m_l_eye, u_l_eye⟩ := F_l_eye
  obtain ⟨f_l_hills, fd_l_hills, m_l_hills, u_l_hills⟩ := F_l_hills
  obtain ⟨f_l_deep, fd_l_deep, m_l_deep, u_l_deep⟩ := F_l_deep
  obtain ⟨f_p_raw_sees, fd_p_raw_sees, m_p_raw_sees, u_p_raw_sees⟩ := F_p_raw_sees
  obtain ⟨f_p_is_hidden_told, fd_p_is_hidden_told, m_p_is_hidden_told, u_p_is_hidden_told⟩ := F_p_is_hidden_told
  obtain ⟨f_p_sees, fd_p_sees, m_p_sees, u_p_sees⟩ := F_p_sees
  obtain ⟨f_l_right, fd_l_right, m_l_right, u_l_right⟩ := F_l_right
  obtain ⟨⟨f_law_main, fd_law_main, m_law_main, u_law_main⟩, nP0, hd0⟩ := F_law_main
  have e := hmg.symm.trans m_law_main
  cases e
  refine ⟨fd_law_main, [(c0, p0)], SpD K mg 1 g_law_main, ?_, ?_, ?_, ?_, fun H a ns hl hb ht hS => law_start hS nl hl ?_ (true_law ns hl), fun base KB NB TBs => ?_⟩
  · intro p hp
    simp only [List.mem_cons, List.not_mem_nil, or_false] at hp
    subst hp
    exact t0
  · intro p hp
    simp only [List.mem_cons, List.not_mem_nil, or_false] at hp
    subst hp
    exact nP0
  · intro p hp
    simp only [List.mem_cons, List.not_mem_nil, or_false] at hp
    subst hp
    exact hd0
  · intro s u
    obtain ⟨oc, od, kV, doc, pm, an, ct, osl, rfl, _, _⟩ := u_law_main.ex
    exact .of_eq rfl
  · intro p hp0
    have hp : p ∈ [(p0, (envOfC "law" (defScope s_law_main) 0 0 .none).qual ++ "<lambda>")] := hp0
    simp only [List.mem_cons, List.not_mem_nil, or_false] at hp
    subst hp
    exact .nil (ht (c0, p0) (by simp))
  ·
    have D_l_hand := ok_l_hand (P := l.prog) (w := w) (K := K) (base := base)  u_l_hand m_l_hand T
    have D_l_is := ok_l_is (P := l.prog) (w := w) (K := K) (base := base)  u_l_is m_l_is T
    have D_l_draw := ok_l_draw (P := l.prog) (w := w) (K := K) (base := base)  u_l_draw m_l_draw T
    have D_l_some := ok_l_some (P := l.prog) (w := w) (K := K) (base := base) D_l_draw u_l_some m_l_some T
    have D_l_no_line := ok_l_no_line (P := l.prog) (w := w) (K := K) (base := base) D_l_some u_l_no_line m_l_no_line T
    have D_l_no_place := ok_l_no_place (P := l.prog) (w := w) (K := K) (base := base) D_l_some u_l_no_place m_l_no_place T
    have D_l_no_eye := ok_l_no_eye (P := l.prog) (w := w) (K := K) (base := base) D_l_some u_l_no_eye m_l_no_eye T
    have D_p_is_sized := ok_p_is_sized (P := l.prog) (w := w) (K := K) (base := base)  u_p_is_sized m_p_is_sized T
    have D_p_is_integer := ok_p_is_integer (P := l.prog) (w := w) (K := K) (base := base)  u_p_is_integer m_p_is_integer T
    have D_p_is_within := ok_p_is_within (P := l.prog) (w := w) (K := K) (base := base) D_p_is_integer u_p_is_within m_p_is_within T
    have D_p_is_line := ok_p_is_line (P := l.prog) (w := w) (K := K) (base := base) D_p_is_sized D_p_is_within u_p_is_line m_p_is_line T
    have D_p_check_line := ok_p_check_line (P := l.prog) (w := w) (K := K) (base := base) D_p_is_line (E_NoLine.ok X G tI I _ _ _) u_p_check_line m_p_check_line T
    have D_p_check_number := ok_p_check_number (P := l.prog) (w := w) (K := K) (base := base) D_p_is_within (E_NoNumber.ok X G tI I _ _ _) u_p_check_number m_p_check_number T
    have D_p_check_place := ok_p_check_place (P := l.prog) (w := w) (K := K) (base := base) D_p_check_number u_p_check_place m_p_check_place T
    have D_p_hidden_told := ok_p_hidden_told (P := l.prog) (w := w) (K := K) (base := base) D_p_check_line D_p_check_place D_p_check_number u_p_hidden_told m_p_hidden_told T
    have Dt := ok_l_error (P := l.prog) (w := w) (base := base) u_l_error m_l_error T XT (PySem.W.mg_of X G aL)
    have D_l_line := ok_l_line (P := l.prog) (w := w) (K := K) (base := base) D_l_some D_l_draw u_l_line m_l_line T
    have D_l_eye := ok_l_eye (P := l.prog) (w := w) (K := K) (base := base) D_l_some D_l_draw u_l_eye m_l_eye T
    have D_l_hills := ok_l_hills (P := l.prog) (w := w) (K := K) (base := base)  u_l_hills m_l_hills T
    have D_l_deep := ok_l_deep (P := l.prog) (w := w) (K := K) (base := base) D_l_draw u_l_deep m_l_deep T
    have D_p_raw_sees := ok_p_raw_sees (P := l.prog) (w := w) (K := K) (base := base)  u_p_raw_sees m_p_raw_sees T
    have D_p_is_hidden_told := ok_p_is_hidden_told (P := l.prog) (w := w) (K := K) (base := base) D_p_check_line D_p_check_place D_p_check_number D_p_raw_sees D_p_is_within u_p_is_hidden_told m_p_is_hidden_told T
    have D_p_sees := ok_p_sees (P := l.prog) (w := w) (K := K) (base := base) D_p_check_line D_p_check_place D_p_check_number D_p_raw_sees u_p_sees m_p_sees T
    have D_l_right := ok_l_right (P := l.prog) (w := w) (K := K) (base := base) D_l_line D_l_eye D_l_draw D_l_hills D_l_deep D_l_is D_l_some D_p_is_hidden_told D_p_hidden_told D_p_sees u_l_right m_l_right T
    exact okf_law_main (P := l.prog) (w := w) (K := K) (base := base) D_l_hand D_l_is D_l_no_line D_l_no_place D_l_no_eye D_p_hidden_told Dt D_l_right D_p_is_hidden_told XT (TBs (c0, p0) (by simp)) (show (p0, _) ∈ [(p0, (envOfC "law" (defScope s_law_main) 0 0 .none).qual ++ "<lambda>")] from by simp) (by
      intro p hp0 e
      have hp : p ∈ [(p0, (envOfC "law" (defScope s_law_main) 0 0 .none).qual ++ "<lambda>")] := hp0
      simp only [List.mem_cons, List.not_mem_nil, or_false] at hp
      rcases hp with rfl
      rfl) u_law_main m_law_main T
end LW


namespace LW
open PySem PD
/-! ### the checks that all modules share, of anything -/
def isIntB : D → Bool
  | .int _ => true
  | _ => false
def withinB (d : D) (a b : Int) : Bool := match d with
  | .int x => decide (a ≤ x) && decide (x ≤ b)
  | _ => false
def tupN (d : D) (n : Int) : Bool := match d with
  | .tuple xs => decide ((xs.length : Int) = n)
  | _ => false
def sizedB (d : D) (a b : Int) : Bool := match d with
  | .tuple xs => decide (a ≤ xs.length) && decide ((xs.length : Int) ≤ b)
  | _ => false
@[simp] theorem withinB_int (x a b : Int) : withinB (.int x) a b = (decide (a ≤ x) && decide (x ≤ b)) := rfl
@[simp] theorem tupN_tup (xs : List D) (n : Int) : tupN (.tuple xs) n = decide ((xs.length : Int) = n) := rfl
@[simp] theorem sizedB_tup (xs : List D) (a b : Int) : sizedB (.tuple xs) a b = (decide (a ≤ xs.length) && decide ((xs.length : Int) ≤ b)) := rfl
theorem t_isint (d : D) : Ev g_p_is_integer [d] (.bool (isIntB d)) := by cases d <;> exact ⟨_, rfl⟩
@[simp] theorem c_isint (d : D) (ρ : PD.Env) : callK 1 g_p_is_integer ρ [.dat d] = .ok (.dat (.bool (isIntB d))) ρ := call1 (t_isint d) ρ
theorem t_within (d : D) (a b : Int) : Ev g_p_is_within [d, .int a, .int b] (.bool (withinB d a b)) := by
  refine go_p_is_within ?_
  unfold k_p_is_within_1
  cases d with
  | int x =>
    by_cases h : a ≤ x
    · simp [isIntB, h]
    · simp [isIntB, h]
  | _ => simp [isIntB, withinB]
@[simp] theorem c_within (d : D) (a b : Int) (ρ : PD.Env) : callK 3 g_p_is_within ρ [.dat d, .dat (.int a), .dat (.int b)] = .ok (.dat (.bool (withinB d a b))) ρ := call3 (t_within d a b) ρ
theorem t_sized (d : D) (a b : Int) : Ev g_p_is_sized [d, .int a, .int b] (.bool (sizedB d a b)) := by
  refine go_p_is_sized ?_
  unfold k_p_is_sized_1
  cases d with
  | tuple xs =>
    by_cases h : a ≤ (xs.length : Int)
    · simp [dIsTuple, h]
    · simp [dIsTuple, h]
  | _ => simp [dIsTuple, sizedB]
@[simp] theorem c_sized (d : D) (a b : Int) (ρ : PD.Env) : callK 3 g_p_is_sized ρ [.dat d, .dat (.int a), .dat (.int b)] = .ok (.dat (.bool (sizedB d a b))) ρ := call3 (t_sized d a b) ρ
theorem t_number {d : D} {a b : Int} (h : withinB d a b = true) : Ev g_p_check_number [d, .int a, .int b] .none := by
  refine goN_p_check_number ?_
  unfold k_p_check_number_1
  simp [h]
theorem x_number {d : D} {a b : Int} (h : withinB d a b = false) : EvX g_p_check_number [d, .int a, .int b] "NoNumber" := by
  refine goX_p_check_number ?_
  unfold k_p_check_number_1
  simp [h]
end LW

namespace LW
open PySem PD
/-! ### the hand -/
structure Hnd where
  cells : List Int
  i : Nat
  a : Int
  b : Int
  c : Int
structure Hnd.Ok (h : Hnd) : Prop where
  cells : ∀ x ∈ h.cells, 0 ≤ x
  short : h.cells.length ≤ 100
  a : 0 ≤ h.a
  b : 0 ≤ h.b
  c : 0 ≤ h.c
def hd (h : Hnd) : List D := [.list (h.cells.map PyData.int), .int h.i, .int h.a, .int h.b, .int h.c]
@[simp] theorem hd0 (h : Hnd) : dIx (.list (hd h)) (.int 0) = some (.dat (.list (h.cells.map PyData.int))) := dIx_l (n := 0) rfl rfl
@[simp] theorem hd1 (h : Hnd) : dIx (.list (hd h)) (.int 1) = some (.dat (.int h.i)) := dIx_l (n := 1) rfl rfl
@[simp] theorem hd2 (h : Hnd) : dIx (.list (hd h)) (.int 2) = some (.dat (.int h.a)) := dIx_l (n := 2) rfl rfl
@[simp] theorem hd3 (h : Hnd) : dIx (.list (hd h)) (.int 3) = some (.dat (.int h.b)) := dIx_l (n := 3) rfl rfl
@[simp] theorem hd4 (h : Hnd) : dIx (.list (hd h)) (.int 4) = some (.dat (.int h.c)) := dIx_l (n := 4) rfl rfl
theorem hd_len (h : Hnd) : (hd h).length = 5 := rfl
theorem hx1 : L2.ixN 5 1 = some 1 := rfl
theorem hx2 : L2.ixN 5 2 = some 2 := rfl
theorem hx3 : L2.ixN 5 3 = some 3 := rfl
theorem hx4 : L2.ixN 5 4 = some 4 := rfl
theorem hs1 (h : Hnd) : (hd h).set 1 (.int ((h.i : Int) + 1)) = hd ⟨h.cells, h.i + 1, h.a, h.b, h.c⟩ := rfl
theorem hs2 (h : Hnd) (x : Int) : (hd h).set 2 (.int x) = hd ⟨h.cells, h.i, x, h.b, h.c⟩ := rfl
theorem hs3 (h : Hnd) (x : Int) : (hd h).set 3 (.int x) = hd ⟨h.cells, h.i, h.a, x, h.c⟩ := rfl
theorem hs4 (h : Hnd) (x : Int) : (hd h).set 4 (.int x) = hd ⟨h.cells, h.i, h.a, h.b, x⟩ := rfl
theorem sml_l (i : Int) (h : -18446744073709551616 < i := by decide) (k : i < 18446744073709551616 := by decide) : Sml i := ⟨h, k⟩
theorem pow18 : dPow (.int 10) (.int 18) = some (.dat (.int 1000000000000000000)) := rfl
theorem mod_nn (a : Int) {b : Int} (h : 0 < b) : 0 ≤ a % b ∧ a % b < b := ⟨Int.emod_nonneg _ (by omega), Int.emod_lt_of_pos _ h⟩
def drQ (many : Int) (s : SO) : Prop := ∃ h' r, Hnd.Ok h' ∧ 0 ≤ r ∧ r < many ∧ RetsP (.int r) (hd h') s
theorem draw2 {h : Hnd} (ok : h.Ok) {many : Int} (m0 : 0 < many) (m1 : many < 1073741824) (y : Option D) : drQ many (k_l_draw_2 (V_l_draw (hand := some (.par (.list (hd h)))) (many := some (.dat (.int many))) (cell := nx y))) := by
  unfold k_l_draw_2
  by_cases ha : 0 < h.a
  · simp [ha]
    unfold k_l_draw_2t_1
    simp [dMod_p m0]
    unfold k_l_draw_2t_2
    simp [dDiv_p m0 m1, hd_len, hx2, hs2]
    unfold k_l_draw_2t_3
    simp
    exact ⟨⟨h.cells, h.i, h.a / many, h.b, h.c⟩, h.a % many, ⟨ok.cells, ok.short, Int.ediv_nonneg ok.a (by omega), ok.b, ok.c⟩, (mod_nn _ m0).1, (mod_nn _ m0).2, by simp⟩
  · simp [ha]
    unfold k_l_draw_3
    simp [hd_len, hx4, hs4]
    unfold k_l_draw_4
    simp [dMul_l (sml_l 7919), dMul_r (sml_l 40692), dMod_p (show (0 : Int) < 2147483647 by decide)]
    have n1 := mod_nn ((h.b + 7919 * (h.c + 1)) * 40692) (show (0 : Int) < 2147483647 by decide)
    generalize ((h.b + 7919 * (h.c + 1)) * 40692) % 2147483647 = x1 at n1 ⊢
    unfold k_l_draw_5
    simp [dDiv_p (show (0 : Int) < 1009 by decide) (by decide), dMul_l (show Sml x1 from ⟨by omega, by omega⟩), dMod_p (show (0 : Int) < 2147483647 by decide)]
    have n2 := mod_nn (x1 * (x1 / 1009 + 69621)) (show (0 : Int) < 2147483647 by decide)
    generalize (x1 * (x1 / 1009 + 69621)) % 2147483647 = x2 at n2 ⊢
    unfold k_l_draw_6
    simp [dDiv_p (show (0 : Int) < 2003 by decide) (by decide), dMul_l (show Sml x2 from ⟨by omega, by omega⟩), dMod_p (show (0 : Int) < 2147483563 by decide)]
    have n3 := mod_nn (x2 * (x2 / 2003 + 40014)) (show (0 : Int) < 2147483563 by decide)
    generalize (x2 * (x2 / 2003 + 40014)) % 2147483563 = x3 at n3 ⊢
    unfold k_l_draw_7
    simp [dDiv_p (show (0 : Int) < 16 by decide) (by decide), dMod_p m0]
    exact ⟨⟨h.cells, h.i, h.a, h.b, h.c + 1⟩, x3 / 16 % many, ⟨ok.cells, ok.short, ok.a, ok.b, by have := ok.c; show 0 ≤ h.c + 1; omega⟩, (mod_nn _ m0).1, (mod_nn _ m0).2, by simp⟩
theorem e_draw {h : Hnd} (ok : h.Ok) {many : Int} (m0 : 0 < many) (m1 : many < 1073741824) : ∃ h' r, Hnd.Ok h' ∧ 0 ≤ r ∧ r < many ∧ EvP g_l_draw (hd h) [.int many] (.dat (.int r)) (hd h') := by
  suffices drQ many (k_l_draw_1 (V_l_draw (hand := some (.par (.list (hd h)))) (many := some (.dat (.int many))))) by
    obtain ⟨h', r, r1, r2, r3, r4⟩ := this
    exact ⟨h', r, r1, r2, r3, goP_l_draw r4⟩
  unfold k_l_draw_1
  by_cases ha : h.a = 0
  · by_cases hi : h.i < h.cells.length
    · have hcell : dIx (.list (h.cells.map PyData.int)) (.int h.i) = some (.dat (.int (h.cells.getD h.i 0))) := dIx_l (n := h.i) rfl (by rw [List.getElem?_map, List.getD_eq_getElem?_getD, List.getElem?_eq_getElem hi]; rfl)
      have hn : 0 ≤ h.cells.getD h.i 0 := by
        rw [List.getD_eq_getElem?_getD, List.getElem?_eq_getElem hi]
        exact ok.cells _ (List.getElem_mem hi)
      generalize h.cells.getD h.i 0 = cell at hcell hn
      have hb := mod_nn (h.b * 69621 + cell * 48271 + 17) (show (0 : Int) < 2147483629 by decide)
      simp [ha, hi]
      unfold k_l_draw_1t_1
      simp [hcell]
      unfold k_l_draw_1t_2
      simp [hd_len, hx1, hs1]
      unfold k_l_draw_1t_3
      simp [hd_len, hx3, hs3, dMul_r (sml_l 69621), dMul_r (sml_l 48271), dMod_p (show (0 : Int) < 2147483629 by decide)]
      unfold k_l_draw_1t_4
      by_cases hc : 1000000000000000000 ≤ cell
      · simp [pow18, hc, hd_len, hx2, hs2]
        exact draw2 (h := ⟨h.cells, h.i + 1, cell, (h.b * 69621 + cell * 48271 + 17) % 2147483629, h.c⟩) ⟨ok.cells, ok.short, hn, hb.1, ok.c⟩ m0 m1 (some (.int cell))
      · simp [pow18, hc]
        exact draw2 (h := ⟨h.cells, h.i + 1, h.a, (h.b * 69621 + cell * 48271 + 17) % 2147483629, h.c⟩) ⟨ok.cells, ok.short, ok.a, hb.1, ok.c⟩ m0 m1 (some (.int cell))
    · simp [ha, hi]
      exact draw2 ok m0 m1 none
  · simp [ha]
    exact draw2 ok m0 m1 none
def absI (x : Int) : Int := if x < 0 then -x else x
theorem absI_nn (x : Int) : 0 ≤ absI x := by unfold absI; split <;> omega
def cellV (x : Int) : Int := absI x
def hand0 (ns : List Int) : Hnd := ⟨ns.map cellV, 0, 0, 397 + 157 * (ns.length : Int), 0⟩
theorem hand0_ok {ns : List Int} (h : ns.length ≤ 63) : (hand0 ns).Ok := by
  refine ⟨?_, ?_, Int.le_refl _, ?_, Int.le_refl _⟩
  · intro x hx
    obtain ⟨y, _, rfl⟩ := List.mem_map.mp hx
    exact absI_nn y
  · show (ns.map cellV).length ≤ 100
    simp; omega
  · show (0 : Int) ≤ 397 + 157 * (ns.length : Int)
    omega
theorem e_hand {ns : List Int} (h : ns.length ≤ 63) : EvO g_l_hand [.list (ns.map PyData.int)] (.list (hd (hand0 ns))) := by
  refine goO_l_hand ?_
  unfold k_l_hand_1
  simp
  rw [lc_all k_l_hand_1c1 rfl ns PyData.int (fun x => .int (cellV x)) (by
      have := cut_to (ns.map PyData.int) 63
      simp at this
      simp [this, List.take_of_length_le (show (ns.map PyData.int).length ≤ 63 by simpa using h)]) rfl (by simp; omega) rfl (fun x _ => by simp [LcEl, cellV, absI])]
  simp
  unfold k_l_hand_2
  simp [dMul_l (sml_l 157)]
  simp [hd, hand0, Function.comp_def]
theorem e_some {h : Hnd} (ok : h.Ok) {xs : List D} (l0 : 0 < xs.length) (l1 : xs.length < 1000000) : ∃ h' x, Hnd.Ok h' ∧ x ∈ xs ∧ EvP g_l_some (hd h) [.list xs] (.dat x) (hd h') := by
  obtain ⟨h', r, ok', r0, r1, q⟩ := e_draw ok (many := (xs.length : Int)) (by omega) (by omega)
  refine ⟨h', xs[r.toNat]'(by omega), ok', List.getElem_mem _, goP_l_some ?_⟩
  unfold k_l_some_1
  simp [cP2 q, dIx_l (xs := xs) (i := r) (n := r.toNat) (by omega) (List.getElem?_eq_getElem (show r.toNat < xs.length by omega))]
theorem e_someT {h : Hnd} (ok : h.Ok) {xs : List D} (l0 : 0 < xs.length) (l1 : xs.length < 1000000) : ∃ h' x, Hnd.Ok h' ∧ x ∈ xs ∧ EvP g_l_some (hd h) [.tuple xs] (.dat x) (hd h') := by
  obtain ⟨h', r, ok', r0, r1, q⟩ := e_draw ok (many := (xs.length : Int)) (by omega) (by omega)
  refine ⟨h', xs[r.toNat]'(by omega), ok', List.getElem_mem _, goP_l_some ?_⟩
  unfold k_l_some_1
  simp [cP2 q, dIx_t (xs := xs) (i := r) (n := r.toNat) (by omega) (List.getElem?_eq_getElem (show r.toNat < xs.length by omega))]
end LW


namespace LW
open PySem PD
def gx (l : List Int) (i : Nat) : Int := l.getD i 0
def gD (hs : List Int) : D := .tuple (hs.map PyData.int)
structure Ln (ls : List Int) : Prop where
  l2 : 2 ≤ ls.length
  l8 : ls.length ≤ 12
  lo : ∀ x ∈ ls, 0 ≤ x
  hi : ∀ x ∈ ls, x ≤ 1000
theorem gx_mem {l : List Int} {i : Nat} (h : i < l.length) : gx l i ∈ l := by
  unfold gx
  rw [List.getD_eq_getElem?_getD, List.getElem?_eq_getElem h]
  exact List.getElem_mem h
theorem g_at (hs : List Int) {i : Nat} (h : i < hs.length) {z : Int} (e : z = i) : dIx (gD hs) (.int z) = some (.dat (.int (gx hs i))) := by
  unfold gD gx
  refine dIx_t (n := i) e ?_
  rw [List.getElem?_map, List.getD_eq_getElem?_getD, List.getElem?_eq_getElem h]
  rfl
@[simp] theorem g_len (hs : List Int) : dLen (gD hs) = some (.dat (.int hs.length)) := by simp [gD]
theorem mulB {a b m n : Int} (h1 : -m ≤ a) (h2 : a ≤ m) (h3 : -n ≤ b) (h4 : b ≤ n) : -(m * n) ≤ a * b ∧ a * b ≤ m * n := by
  have e : ((a * b).natAbs : Int) ≤ m * n := by
    rw [Int.natAbs_mul, Int.natCast_mul]
    have x1 : (a.natAbs : Int) ≤ m := by omega
    have x2 : (b.natAbs : Int) ≤ n := by omega
    exact Int.mul_le_mul x1 x2 (by omega) (by omega)
  omega
def mnN (o t : Nat) : Nat := min o t
def mxN (o t : Nat) : Nat := max o t
theorem mnN_f (o t : Nat) : mnN o t = min o t := rfl
theorem mxN_f (o t : Nat) : mxN o t = max o t := rfl
/-- how far apart -/
def W (o t : Nat) : Int := (mxN o t : Nat) - (mnN o t : Nat)
def viol (ls : List Int) (o t : Nat) (e : Int) (p : Nat) : Bool := decide ((gx ls o + e) * (W o t - W o p) + gx ls t * W o p < gx ls p * W o t)
def btw (o t p : Nat) : Bool := decide (mnN o t < p) && decide (p < mxN o t)
def seesB (ls : List Int) (o t : Nat) (e : Int) : Bool := (List.range ls.length).all fun p => !(btw o t p && viol ls o t e p)
theorem sees_iff {ls : List Int} {o t : Nat} {e : Int} (ho : o < ls.length) (ht : t < ls.length) : seesB ls o t e = true ↔ ∀ p, mnN o t < p → p < mxN o t → viol ls o t e p = false := by
  unfold seesB
  rw [List.all_eq_true]
  have hm := mnN_f o t
  have hx := mxN_f o t
  constructor
  · intro h p h1 h2
    have := h p (by rw [List.mem_range]; omega)
    unfold btw at this
    rw [decide_eq_true h1, decide_eq_true h2] at this
    simpa using this
  · intro h p hp
    by_cases h1 : mnN o t < p
    · by_cases h2 : p < mxN o t
      · rw [h p h1 h2]; simp
      · unfold btw; rw [decide_eq_false h2]; simp
    · unfold btw; rw [decide_eq_false h1]; simp
section
variable {ls : List Int}
theorem t_line (g : Ln ls) : Ev g_p_is_line [gD ls] (.bool true) := by
  have h1 := g.l2
  have h2 := g.l8
  refine go_p_is_line ?_
  unfold k_p_is_line_1 gD
  simp [q_MOST_PLACES, show (2 : Int) ≤ ls.length by omega, show (ls.length : Int) ≤ 24 by omega]
  rw [lc_all k_p_is_line_1c1 rfl ls PyData.int (fun _ => .bool true) (by simp) (by simp) (by simp; omega) (by simp) (fun z hz => by
    have := g.lo z hz
    have := g.hi z hz
    simp [LcEl, q_MOST_HIGH]
    omega)]
  simp [dAll_map]
theorem t_cl (g : Ln ls) : Ev g_p_check_line [gD ls] .none := goN_p_check_line (by
  unfold k_p_check_line_1
  simp [call1 (t_line g)])
theorem t_num {w m : Int} (h0 : 0 ≤ w) (h1 : w ≤ m) : Ev g_p_check_number [.int w, .int 0, .int m] .none := goN_p_check_number (by
  unfold k_p_check_number_1
  simp [h0, h1])
theorem t_pl {o : Nat} (ho : o < ls.length) : Ev g_p_check_place [gD ls, .int o] .none := goN_p_check_place (by
  unfold k_p_check_place_1
  simp [call3 (t_num (w := (o : Int)) (m := (ls.length : Int) - 1) (by omega) (by omega))])
theorem gx_b (g : Ln ls) {i : Nat} (h : i < ls.length) : 0 ≤ gx ls i ∧ gx ls i ≤ 1000 := ⟨g.lo _ (gx_mem h), g.hi _ (gx_mem h)⟩
theorem mn2 (o t : Nat) : (if t < o then (t : Int) else o) = ((mnN o t : Nat) : Int) := by unfold mnN; split <;> omega
theorem mx2 (o t : Nat) : (if o < t then (t : Int) else o) = ((mxN o t : Nat) : Int) := by unfold mxN; split <;> omega
theorem abW (o p : Nat) : (if (p : Int) - o < 0 then -((p : Int) - o) else (p : Int) - o) = W o p := by unfold W mxN mnN; split <;> omega
abbrev RS (ls : List Int) (o t : Nat) (e : Int) (pl fa : Option D) : PD.Env := V_p_raw_sees (some (.dat (gD ls))) (some (.dat (.int o))) (some (.dat (.int t))) (some (.dat (.int e))) (some (.dat (.int 0))) (nx pl) (some (.dat (.int (mnN o t : Nat)))) (some (.dat (.int (mxN o t : Nat)))) (some (.dat (.int (gx ls o + e)))) (some (.dat (.int (gx ls t)))) (nx fa)
def rsI (ls : List Int) (o t : Nat) (e : Int) (pre : List Nat) (ρ : PD.Env) : Prop := (∀ i ∈ pre, viol ls o t e (mnN o t + 1 + i) = false) ∧ ∃ pl fa, ρ = RS ls o t e pl fa
theorem t_raw (g : Ln ls) {o t : Nat} (ho : o < ls.length) (ht : t < ls.length) {e : Int} (e0 : 0 ≤ e) (e1 : e ≤ 1000) : Ev g_p_raw_sees [gD ls, .int o, .int t, .int e, .int 0] (.bool (seesB ls o t e)) := by
  have l8 := g.l8
  refine go_p_raw_sees ?_
  unfold k_p_raw_sees_1
  simp [mn2, mx2]
  unfold k_p_raw_sees_2
  simp [g_at ls ho rfl, g_at ls ht rfl]
  unfold k_p_raw_sees_3
  simp only [seq_eq]
  have go := gx_b g ho
  have gt := gx_b g ht
  have hm := mnN_f o t
  have hx := mxN_f o t
  refine for_run (Q := Rets _) (List.range (mxN o t - (mnN o t + 1))) (fun i => .int (((mnN o t + 1 : Nat) : Int) + (i : Int))) (rsI ls o t e) (ρ1 := RS ls o t e none none) (by simp) ?_ ?_ ?_ ?_
  · simp [rOk_mk (i := ((mnN o t : Nat) : Int) + 1) (by omega) (by omega), rOk_mk (i := ((mxN o t : Nat) : Int)) (by omega) (by omega), rangeD_eq, show (((mxN o t : Nat) : Int) - (((mnN o t : Nat) : Int) + 1)).toNat = mxN o t - (mnN o t + 1) by omega]
  · exact ⟨by simp, none, none, rfl⟩
  · rintro pre i post ρ ei ⟨no, pl, fa, rfl⟩
    obtain ⟨rfl, hi, _⟩ := range_split ei
    generalize hp : mnN o t + 1 + pre.length = p at *
    have pl_ : ((mnN o t + 1 : Nat) : Int) + (pre.length : Int) = (p : Int) := by omega
    have hpl : p < ls.length := by omega
    have gp := gx_b g hpl
    rw [pl_]
    refine ⟨_, by simp; rfl, ?_⟩
    unfold k_p_raw_sees_3b_1
    have aw := abW o p
    simp [aw]
    unfold k_p_raw_sees_3b_2
    have wt : ((mxN o t : Nat) : Int) - ((mnN o t : Nat) : Int) = W o t := rfl
    have w0 : 0 ≤ W o t ∧ W o t ≤ 12 := by unfold W; omega
    have w1 : 0 ≤ W o p ∧ W o p ≤ 12 := by unfold W mxN mnN; omega
    have m1 : dMul (.int (gx ls p)) (.int (W o t)) = _ := dMul_l ⟨by omega, by omega⟩
    have m2 : dMul (.int (gx ls o + e)) (.int (W o t - W o p)) = _ := dMul_l ⟨by omega, by omega⟩
    have m3 : dMul (.int (gx ls t)) (.int (W o p)) = _ := dMul_l ⟨by omega, by omega⟩
    have gpi := g_at ls hpl rfl
    simp [gpi, wt, m1, m2, m3]
    have en : rsI ls o t e (pre ++ [pre.length]) = fun ρ => (∀ i ∈ pre ++ [pre.length], viol ls o t e (mnN o t + 1 + i) = false) ∧ ∃ pl fa, ρ = RS ls o t e pl fa := rfl
    cases v : viol ls o t e p with
    | true =>
      have v' := of_decide_eq_true v
      have sb : seesB ls o t e = false := by
        cases q : seesB ls o t e with
        | false => rfl
        | true =>
          rw [(sees_iff ho ht).mp q p (by omega) (by omega)] at v
          cases v
      rw [if_pos v', sb]
      simp
    | false =>
      have v' := of_decide_eq_false v
      rw [if_neg v']
      simp
      refine ⟨fun i hi => ?_, some (.int p), some (.int (W o p)), rfl⟩
      rcases List.mem_append.mp hi with q | q
      · exact no i q
      · simp at q
        subst q
        rw [hp]
        exact v
  · rintro ρ ⟨no, pl, fa, rfl⟩
    unfold k_p_raw_sees_4
    have : seesB ls o t e = true := (sees_iff ho ht).mpr fun p h1 h2 => by
      have := no (p - (mnN o t + 1)) (by rw [List.mem_range]; omega)
      rwa [show mnN o t + 1 + (p - (mnN o t + 1)) = p by omega] at this
    rw [this]
    simp
end
end LW

namespace LW
open PySem PD
section
variable {ls : List Int}
theorem t_sees (g : Ln ls) {o t : Nat} (ho : o < ls.length) (ht : t < ls.length) {e : Int} (e0 : 0 ≤ e) (e1 : e ≤ 1000) : Ev g_p_sees [gD ls, .int o, .int t, .int e] (.bool (seesB ls o t e)) := by
  refine go_p_sees ?_
  unfold k_p_sees_1
  simp [call1 (t_cl g)]
  unfold k_p_sees_2
  simp [call2 (t_pl ho)]
  unfold k_p_sees_3
  simp [call2 (t_pl ht)]
  unfold k_p_sees_4
  simp [q_MOST_HIGH, call3 (t_num (w := e) (m := 1000) e0 e1)]
  unfold k_p_sees_5
  simp [call5 (t_raw g ho ht e0 e1)]
/-! the law's own way -/
def wayL (o t : Nat) : List Nat := if o < t then (List.range (t - (o + 1))).map fun i => o + 1 + i else (List.range (o - 1 - t)).map fun i => o - 1 - i
theorem mem_way {o t p : Nat} : p ∈ wayL o t ↔ mnN o t < p ∧ p < mxN o t := by
  have hm := mnN_f o t
  have hx := mxN_f o t
  unfold wayL
  split
  · rw [List.mem_map]
    constructor
    · rintro ⟨i, hi, rfl⟩
      rw [List.mem_range] at hi
      omega
    · intro h
      exact ⟨p - (o + 1), by rw [List.mem_range]; omega, by omega⟩
  · rw [List.mem_map]
    constructor
    · rintro ⟨i, hi, rfl⟩
      rw [List.mem_range] at hi
      omega
    · intro h
      exact ⟨o - 1 - p, by rw [List.mem_range]; omega, by omega⟩
theorem wayL_len (o t : Nat) (ho : o < 12) (ht : t < 12) : (wayL o t).length ≤ 12 := by
  unfold wayL
  split <;> simp <;> omega
def hlI (ls : List Int) (o t : Nat) (e : Int) (pre : List Nat) (ρ : PD.Env) : Prop := ∃ pl, ρ = V_l_hills (some (.dat (gD ls))) (some (.dat (.int o))) (some (.dat (.int t))) (some (.dat (.int e))) (some (.dat (.list ((wayL o t).map fun (p : Nat) => .int p)))) (some (.own (.list ((pre.filter (viol ls o t e)).map fun (p : Nat) => .int p)))) (nx pl) (some (.dat (.int (gx ls o + e)))) (some (.dat (.int (gx ls t)))) (some (.dat (.int (W o t))))
theorem abW2 (o t : Nat) : (if (t : Int) - o < 0 then -((t : Int) - o) else (t : Int) - o) = W o t := abW o t
theorem e_hills2 (g : Ln ls) {o t : Nat} (ho : o < ls.length) (ht : t < ls.length) {e : Int} (e0 : 0 ≤ e) (e1 : e ≤ 1000) : RetsO (.list (((wayL o t).filter (viol ls o t e)).map fun (p : Nat) => .int p)) (k_l_hills_3 (V_l_hills (some (.dat (gD ls))) (some (.dat (.int o))) (some (.dat (.int t))) (some (.dat (.int e))) (some (.dat (.list ((wayL o t).map fun (p : Nat) => .int p)))) none none (some (.dat (.int (gx ls o + e)))) (some (.dat (.int (gx ls t)))) (some (.dat (.int (W o t)))))) := by
  have l8 := g.l8
  have go := gx_b g ho
  have gt := gx_b g ht
  have w0 : 0 ≤ W o t ∧ W o t ≤ 12 := by unfold W mxN mnN; omega
  have wl := wayL_len o t (by omega) (by omega)
  unfold k_l_hills_3
  simp
  unfold k_l_hills_4
  simp only [seq_eq]
  refine for_run (Q := RetsO _) (wayL o t) (fun (p : Nat) => .int p) (hlI ls o t e) (ρ1 := V_l_hills (some (.dat (gD ls))) (some (.dat (.int o))) (some (.dat (.int t))) (some (.dat (.int e))) (some (.dat (.list ((wayL o t).map fun (p : Nat) => .int p)))) (some (.own (.list []))) none (some (.dat (.int (gx ls o + e)))) (some (.dat (.int (gx ls t)))) (some (.dat (.int (W o t))))) (by simp) ?_ ⟨none, rfl⟩ ?_ ?_
  · simp
  · rintro pre p post ρ ep ⟨pl, rfl⟩
    have hp : p ∈ wayL o t := by rw [ep]; simp
    rw [mem_way] at hp
    have hm := mnN_f o t
    have hx := mxN_f o t
    have hpl : p < ls.length := by omega
    have gp := gx_b g hpl
    have w1 : 0 ≤ W o p ∧ W o p ≤ 12 := by unfold W mxN mnN; omega
    have aw := abW o p
    refine ⟨_, by simp; rfl, ?_⟩
    unfold k_l_hills_4b_1
    have m1 : dMul (.int (gx ls p)) (.int (W o t)) = _ := dMul_l ⟨by omega, by omega⟩
    have m2 : dMul (.int (gx ls o + e)) (.int (W o t)) = _ := dMul_l ⟨by omega, by omega⟩
    have m3 : dMul (.int (gx ls t - (gx ls o + e))) (.int (W o p)) = _ := dMul_l ⟨by omega, by omega⟩
    have ve : decide ((gx ls o + e) * W o t + (gx ls t - (gx ls o + e)) * W o p < gx ls p * W o t) = viol ls o t e p := by
      unfold viol
      have : (gx ls o + e) * W o t + (gx ls t - (gx ls o + e)) * W o p = (gx ls o + e) * (W o t - W o p) + gx ls t * W o p := by grind
      rw [this]
    have ll : (pre.filter (viol ls o t e)).length < 16777216 := by
      have h1 := List.length_filter_le (viol ls o t e) pre
      have h2 := congrArg List.length ep
      simp at h2
      omega
    simp [g_at ls hpl rfl, aw, m1, m2, m3]
    cases v : viol ls o t e p with
    | true =>
      rw [v] at ve
      rw [if_pos (of_decide_eq_true ve)]
      simp [ll]
      exact ⟨some (.int p), by simp [v]⟩
    | false =>
      rw [v] at ve
      rw [if_neg (of_decide_eq_false ve)]
      simp
      exact ⟨some (.int p), by simp [v]⟩
  · rintro ρ ⟨pl, rfl⟩
    unfold k_l_hills_5
    simp
theorem e_hills (g : Ln ls) {o t : Nat} (ho : o < ls.length) (ht : t < ls.length) {e : Int} (e0 : 0 ≤ e) (e1 : e ≤ 1000) : EvO g_l_hills [gD ls, .int o, .int t, .int e] (.list (((wayL o t).filter (viol ls o t e)).map fun (p : Nat) => .int p)) := by
  have l8 := g.l8
  refine goO_l_hills ?_
  unfold k_l_hills_1
  have aw := abW2 o t
  simp [g_at ls ho rfl, g_at ls ht rfl, aw]
  unfold k_l_hills_2
  have wy : (if o < t then rangeD ((o : Int) + 1) t else rangeN ((o : Int) - 1) t) = (wayL o t).map fun (p : Nat) => PyData.int p := by
    unfold wayL
    split
    · rw [rangeD_eq, List.map_map, show ((t : Int) - ((o : Int) + 1)).toNat = t - (o + 1) by omega]
      refine List.map_congr_left fun i _ => ?_
      simp
    · rw [rangeN_eq, List.map_map, show (((o : Int) - 1) - t).toNat = o - 1 - t by omega]
      refine List.map_congr_left fun i hi => ?_
      rw [List.mem_range] at hi
      simp
      omega
  have go := gx_b g ho
  have gt := gx_b g ht
  have w0 : 0 ≤ W o t ∧ W o t ≤ 12 := by unfold W mxN mnN; omega
  by_cases h : o < t
  · rw [if_pos h] at wy
    simp [h, rOk_mk (i := (o : Int) + 1) (by omega) (by omega), rOk_mk (i := (t : Int)) (by omega) (by omega), show (t : Int) - ((o : Int) + 1) ≤ 16777216 by omega, wy]
    exact e_hills2 g ho ht e0 e1
  · rw [if_neg h] at wy
    simp [h, rOk_mk (i := (o : Int) - 1) (by omega) (by omega), rOk_mk (i := (t : Int)) (by omega) (by omega), show (o : Int) - 1 - t ≤ 16777216 by omega, wy]
    exact e_hills2 g ho ht e0 e1
end
end LW

namespace LW
open PySem PD
/-! draws -/
def lnD (k : Int) (bs : List Int) (ρ : PD.Env) : Prop := (∀ b ∈ bs, 0 ≤ b ∧ b ≤ 1000) ∧ ∃ h : Hnd, h.Ok ∧ ρ = V_l_line (some (.par (.list (hd h)))) (some (.dat (.int 12))) (some (.dat (.int k)))
theorem e_line {h : Hnd} (ok : h.Ok) : ∃ h' r, Hnd.Ok h' ∧ Ln r ∧ EvP g_l_line (hd h) [.int 12] (.dat (gD r)) (hd h') := by
  obtain ⟨h0, v, ok0, hv, q0⟩ := e_some ok (xs := [.int 2, .int 5, .int 12, .int 1001]) (by decide) (by decide)
  have : ∃ w : Int, v = .int w ∧ 2 ≤ w ∧ w ≤ 1001 := by
    simp at hv
    rcases hv with rfl | rfl | rfl | rfl <;> exact ⟨_, rfl, by omega, by omega⟩
  obtain ⟨k, rfl, k0, k1⟩ := this
  obtain ⟨h1, n, ok1, n0, n1, q1⟩ := e_draw ok0 (many := 11) (by omega) (by omega)
  obtain ⟨ys, ρ', e1, hy, hb, h2, ok2, rfl⟩ := lc_inv k_l_line_2c1 rfl (List.range (2 + n).toNat) (fun i => .int (0 + (i : Int))) PyData.int (lnD k) (ρ := V_l_line (some (.par (.list (hd h0)))) (some (.dat (.int 12))) (some (.dat (.int k)))) (ρ1 := V_l_line (some (.par (.list (hd h1)))) (some (.dat (.int 12))) (some (.dat (.int k))))
    (by simp [cP2 q1, rOk_mk (i := 2 + n) (by omega) (by omega), rangeD_eq]) (by simp) (by simp; omega) ⟨by simp, h1, ok1, by simp⟩ (by
      rintro a bs ρ ⟨hb, h2, ok2, rfl⟩
      obtain ⟨h3, x, ok3, x0, x1, q3⟩ := e_draw ok2 (many := k) (by omega) (by omega)
      refine ⟨_, .dat (.int x), x, _, by simp; rfl, by simp [cP2 q3]; rfl, rfl, by simp, fun b hb' => ?_, h3, ok3, by simp⟩
      rcases List.mem_append.mp hb' with hb' | hb'
      · exact hb b hb'
      · simp at hb'; omega)
  rw [List.length_range] at hy
  refine ⟨h2, ys, ok2, ⟨by omega, by omega, fun x hx => (hb x hx).1, fun x hx => (hb x hx).2⟩, goP_l_line ?_⟩
  unfold k_l_line_1
  simp [cP2 q0]
  unfold k_l_line_2
  simp at e1
  simp [e1, gD]
theorem e_eye {h : Hnd} (ok : h.Ok) : ∃ h' e, Hnd.Ok h' ∧ 0 ≤ e ∧ e ≤ 1000 ∧ EvP g_l_eye (hd h) [] (.dat (.int e)) (hd h') := by
  obtain ⟨h1, a, ok1, a0, a1, q1⟩ := e_draw ok (many := 20) (by omega) (by omega)
  obtain ⟨h2, b, ok2, b0, b1, q2⟩ := e_draw ok1 (many := 1001) (by omega) (by omega)
  obtain ⟨h3, v, ok3, hv, q3⟩ := e_some ok2 (xs := [.int 0, .int 1, .int 2, .int a, .int b]) (by simp) (by simp)
  have : ∃ w : Int, v = .int w ∧ 0 ≤ w ∧ w ≤ 1000 := by
    simp only [List.mem_cons, List.not_mem_nil, or_false] at hv
    rcases hv with rfl | rfl | rfl | rfl | rfl <;> exact ⟨_, rfl, by omega, by omega⟩
  obtain ⟨w, rfl, w0, w1⟩ := this
  refine ⟨h3, w, ok3, w0, w1, goP_l_eye ?_⟩
  unfold k_l_eye_1
  simp [cP2 q1, cP2 q2, cP2 q3]
end LW

namespace LW
open PySem PD
section
variable {ls : List Int}
def wayN (o t i : Nat) : Nat := if o < t then o + 1 + i else o - 1 - i
def farN (o t : Nat) : Nat := if o < t then t - (o + 1) else o - 1 - t
theorem wayL_eq (o t : Nat) : wayL o t = (List.range (farN o t)).map (wayN o t) := by
  unfold wayL farN wayN
  split <;> rfl
def toldH (ls : List Int) (o t : Nat) (e : Int) : D := match (wayL o t).find? (viol ls o t e) with
  | some p => .tuple [.str "hill", .int (p : Nat)]
  | none => .tuple [.str "seen"]
abbrev HE (ls : List Int) (o t : Nat) (e st : Int) (fa pl : Option D) : PD.Env := V_p_hidden_told (some (.dat (gD ls))) (some (.dat (.int o))) (some (.dat (.int t))) (some (.dat (.int e))) (some (.dat (.int st))) (some (.dat (.int (W o t)))) (nx fa) (nx pl)
def htI (ls : List Int) (o t : Nat) (e st : Int) (pre : List Nat) (ρ : PD.Env) : Prop := (∀ i ∈ pre, viol ls o t e (wayN o t i) = false) ∧ ∃ fa pl, ρ = HE ls o t e st fa pl
def stp (o t : Nat) : Int := if o < t then 1 else -1
theorem way_at {o t i : Nat} (h : i < farN o t) : (o : Int) + stp o t * (1 + (i : Int)) = (wayN o t i : Nat) := by
  unfold stp wayN farN at *
  split at h <;> split <;> omega
theorem way_W {o t i : Nat} (h : i < farN o t) : W o (wayN o t i) = 1 + (i : Int) := by
  unfold W mxN mnN wayN farN at *
  split at h <;> split <;> omega
theorem way_in {o t i : Nat} (h : i < farN o t) : mnN o t < wayN o t i ∧ wayN o t i < mxN o t := by
  unfold mxN mnN wayN farN at *
  split at h <;> split <;> omega
theorem far_W (o t : Nat) : (W o t - 1).toNat = farN o t := by
  unfold W mxN mnN farN
  split <;> omega
theorem far_W2 (o t : Nat) : (W o t).toNat - 1 = farN o t := by
  unfold W mxN mnN farN
  split <;> omega
theorem t_hidden7 (g : Ln ls) {o t : Nat} (ho : o < ls.length) (ht : t < ls.length) {e : Int} (e0 : 0 ≤ e) (e1 : e ≤ 1000) : Rets (toldH ls o t e) (k_p_hidden_told_7 (HE ls o t e (stp o t) none none)) := by
  have l8 := g.l8
  have go := gx_b g ho
  have gt := gx_b g ht
  have hm := mnN_f o t
  have hx := mxN_f o t
  have w0 : 0 ≤ W o t ∧ W o t ≤ 12 := by unfold W; omega
  have st0 : -1 ≤ stp o t ∧ stp o t ≤ 1 := by unfold stp; split <;> omega
  unfold k_p_hidden_told_7
  simp only [seq_eq]
  refine for_run (Q := Rets _) (List.range (farN o t)) (fun i => .int (1 + (i : Int))) (htI ls o t e (stp o t)) (ρ1 := HE ls o t e (stp o t) none none) (by simp) ?_ ⟨by simp, none, none, rfl⟩ ?_ ?_
  · simp [rOk_mk (i := 1) (by omega) (by omega), rOk_mk (i := W o t) (by omega) (by omega), rangeD_eq, far_W, far_W2]
  · rintro pre i post ρ ei ⟨no, fa, pl, rfl⟩
    obtain ⟨rfl, hi, hpre⟩ := range_split ei
    have wa := way_at hi
    have ww := way_W hi
    have wi := way_in hi
    generalize hp : wayN o t pre.length = p at *
    have hpl : p < ls.length := by omega
    have gp := gx_b g hpl
    refine ⟨_, by simp; rfl, ?_⟩
    unfold k_p_hidden_told_7b_1
    have m0 : dMul (.int (stp o t)) (.int (1 + (pre.length : Int))) = _ := dMul_l ⟨by omega, by omega⟩
    simp [m0, wa]
    unfold k_p_hidden_told_7b_2
    have m1 : dMul (.int (gx ls p)) (.int (W o t)) = _ := dMul_l ⟨by omega, by omega⟩
    have m2 : dMul (.int (gx ls o + e)) (.int (W o t - (1 + (pre.length : Int)))) = _ := dMul_l ⟨by omega, by omega⟩
    have m3 : dMul (.int (gx ls t)) (.int (1 + (pre.length : Int))) = _ := dMul_l ⟨by omega, by omega⟩
    have gpi := g_at ls hpl rfl
    have gti := g_at ls ht rfl
    have goi := g_at ls ho rfl
    simp [gpi, gti, goi, m1, m2, m3]
    have ve : decide ((gx ls o + e) * (W o t - (1 + (pre.length : Int))) + gx ls t * (1 + (pre.length : Int)) < gx ls p * W o t) = viol ls o t e p := by
      unfold viol
      rw [ww]
    cases v : viol ls o t e p with
    | true =>
      rw [v] at ve
      rw [if_pos (of_decide_eq_true ve)]
      have fd : (wayL o t).find? (viol ls o t e) = some p := by
        rw [wayL_eq, ei, List.map_append, List.map_cons, List.find?_append, List.find?_eq_none.mpr (by
          intro x hx
          obtain ⟨j, hj, rfl⟩ := List.mem_map.mp hx
          rw [no j hj]
          simp), hp, List.find?_cons_of_pos v]
        rfl
      simp [toldH, fd]
    | false =>
      rw [v] at ve
      rw [if_neg (of_decide_eq_false ve)]
      simp
      refine ⟨fun j hj => ?_, some (.int (1 + (pre.length : Int))), some (.int p), rfl⟩
      rcases List.mem_append.mp hj with q | q
      · exact no j q
      · simp at q
        subst q
        rw [hp]
        exact v
  · rintro ρ ⟨no, fa, pl, rfl⟩
    unfold k_p_hidden_told_8
    have fd : (wayL o t).find? (viol ls o t e) = none := by
      rw [wayL_eq, List.find?_eq_none]
      intro x hx
      obtain ⟨j, hj, rfl⟩ := List.mem_map.mp hx
      rw [no j hj]
      simp
    simp [toldH, fd]
theorem t_hidden (g : Ln ls) {o t : Nat} (ho : o < ls.length) (ht : t < ls.length) {e : Int} (e0 : 0 ≤ e) (e1 : e ≤ 1000) : Ev g_p_hidden_told [gD ls, .int o, .int t, .int e] (toldH ls o t e) := by
  have fin := t_hidden7 g ho ht e0 e1
  refine go_p_hidden_told ?_
  unfold k_p_hidden_told_1
  simp [call1 (t_cl g)]
  unfold k_p_hidden_told_2
  simp [call2 (t_pl ho)]
  unfold k_p_hidden_told_3
  simp [call2 (t_pl ht)]
  unfold k_p_hidden_told_4
  simp [q_MOST_HIGH, call3 (t_num (w := e) (m := 1000) e0 e1)]
  unfold k_p_hidden_told_5
  have aw := abW2 o t
  by_cases h : o < t
  · have st : stp o t = 1 := if_pos h
    rw [st] at fin
    simp [h]
    unfold k_p_hidden_told_6
    simp [aw]
    exact fin
  · have st : stp o t = -1 := if_neg h
    rw [st] at fin
    simp [h]
    unfold k_p_hidden_told_6
    simp [aw]
    exact fin
end
end LW

namespace LW
open PySem PD
theorem in12 (n : Nat) : dInB true (.int (n : Int)) (.tuple [.int 1, .int 2]) = some (.dat (.bool (!decide (n = 1 ∨ n = 2)))) := by
  have := dIn_intsT true (n : Int) [1, 2]
  simp at this
  rw [this]
  congr 3
  rw [Bool.eq_iff_iff]
  simp
  omega
section
variable {ls : List Int} {o t : Nat} {e : Int}
/-- up to the look at the thing -/
theorem j_go (g : Ln ls) (ho : o < ls.length) (ht : t < ls.length) (e0 : 0 ≤ e) (e1 : e ≤ 1000) {x r : D} (h : Rets r (k_p_is_hidden_told_5 (V_p_is_hidden_told (some (.dat (gD ls))) (some (.dat (.int o))) (some (.dat (.int t))) (some (.dat (.int e))) (some (.dat x))))) : Ev g_p_is_hidden_told [gD ls, .int o, .int t, .int e, x] r := by
  refine go_p_is_hidden_told ?_
  unfold k_p_is_hidden_told_1
  simp [call1 (t_cl g)]
  unfold k_p_is_hidden_told_2
  simp [call2 (t_pl ho)]
  unfold k_p_is_hidden_told_3
  simp [call2 (t_pl ht)]
  unfold k_p_is_hidden_told_4
  simp [q_MOST_HIGH, call3 (t_num (w := e) (m := 1000) e0 e1)]
  simpa using h
theorem j_seen (g : Ln ls) (ho : o < ls.length) (ht : t < ls.length) (e0 : 0 ≤ e) (e1 : e ≤ 1000) : Ev g_p_is_hidden_told [gD ls, .int o, .int t, .int e, .tuple [.str "seen"]] (.bool (seesB ls o t e)) := by
  refine j_go g ho ht e0 e1 ?_
  unfold k_p_is_hidden_told_5
  have i0 : dIx (.tuple [.str "seen"]) (.int 0) = some (.dat (.str "seen")) := tx0 _ _
  have n1 := in12 1
  simp at n1
  simp [dIsTuple, n1, i0, dIsStr]
  unfold k_p_is_hidden_told_6
  simp [i0, dEq_ss, call5 (t_raw g ho ht e0 e1)]
theorem j_hill (g : Ln ls) (ho : o < ls.length) (ht : t < ls.length) (e0 : 0 ≤ e) (e1 : e ≤ 1000) {p : Nat} (hp : p < ls.length) : Ev g_p_is_hidden_told [gD ls, .int o, .int t, .int e, .tuple [.str "hill", .int p]] (.bool (btw o t p && viol ls o t e p)) := by
  have l8 := g.l8
  have hm := mnN_f o t
  have hx := mxN_f o t
  refine j_go g ho ht e0 e1 ?_
  unfold k_p_is_hidden_told_5
  have i0 : dIx (.tuple [.str "hill", .int p]) (.int 0) = some (.dat (.str "hill")) := tx0 _ _
  have i1 : dIx (.tuple [.str "hill", .int p]) (.int 1) = some (.dat (.int p)) := tx1 _ _ _
  have n1 := in12 2
  simp at n1
  simp [dIsTuple, n1, i0, dIsStr]
  unfold k_p_is_hidden_told_6
  simp
  unfold k_p_is_hidden_told_7
  have nh : dNe (.str "hill") (.str "hill") = some (.dat (.bool false)) := dNe_ss _
  have wb : (decide (((mnN o t : Nat) : Int) + 1 ≤ (p : Int)) && decide ((p : Int) ≤ ((mxN o t : Nat) : Int) - 1)) = btw o t p := by
    unfold btw
    rw [Bool.eq_iff_iff]
    simp
    omega
  cases b : btw o t p with
  | false =>
    rw [b] at wb
    simp [i0, i1, nh, mn2, mx2, wb]
  | true =>
    rw [b] at wb
    simp [i0, i1, nh, mn2, mx2, wb]
    unfold btw at b
    rw [Bool.and_eq_true, decide_eq_true_eq, decide_eq_true_eq] at b
    have go := gx_b g ho
    have gt := gx_b g ht
    have gp := gx_b g hp
    have w0 : 0 ≤ W o t ∧ W o t ≤ 12 := by unfold W; omega
    have w1 : 0 ≤ W o p ∧ W o p ≤ 12 := by unfold W mxN mnN; omega
    unfold k_p_is_hidden_told_8
    have a1 := abW o p
    have a2 := abW2 o t
    simp [i1, a1, a2]
    unfold k_p_is_hidden_told_9
    have m1 : dMul (.int (gx ls p)) (.int (W o t)) = _ := dMul_l ⟨by omega, by omega⟩
    have m2 : dMul (.int (gx ls o + e)) (.int (W o t - W o p)) = _ := dMul_l ⟨by omega, by omega⟩
    have m3 : dMul (.int (gx ls t)) (.int (W o p)) = _ := dMul_l ⟨by omega, by omega⟩
    have gpi := g_at ls hp rfl
    have gti := g_at ls ht rfl
    have goi := g_at ls ho rfl
    simp [i1, gpi, gti, goi, m1, m2, m3, viol]
end
end LW

namespace LW
open PySem PD
/-! a def whose hand comes second -/
def EvQ (f : FS) (d : D) (h : List D) (r : D) (h' : List D) : Prop := ∃ o, f [.dat d, .par (.list h)] = .ok (.dat r) [o, .list h']
theorem EvQ_go {n : Nat} {m m1 : MS} {d : D} {h : List D} {r : D} {h' : List D} (e : m = m1) (q : ∃ ρ', m1 (entry n [.dat d, .par (.list h)]) = .ret (.dat r) ρ' ∧ ρ'[1]? = some (some (.par (.list h')))) : EvQ (fn n m) d h r h' := by
  subst e
  obtain ⟨ρ', q, k⟩ := q
  refine ⟨(slotD ρ' 0).getD .none, ?_⟩
  unfold fn
  rw [q]
  show FO.ok (.dat r) [(slotD ρ' 0).getD .none, (slotD ρ' 1).getD .none] = _
  rw [r_slotD ρ' 1, k]
  rfl
theorem cQ {f : FS} {d : D} {h : List D} {r : D} {h' : List D} (q : EvQ f d h r h') (ρ : PD.Env) {i : Nat} (k : mutL ρ i = some h) : callK 2 f ρ [.dat d, .bor i] = .ok (.dat r) (putSlot ρ i (.list h')) := by
  obtain ⟨o, q⟩ := q
  have ka : argOf ρ (.bor i) = some (.par (.list h)) := by
    rcases mutL_some k with e | e
    · show (match ρ[i]? with | some (some (.dat d)) => some (SV.dat d) | some (some (.own d)) => some (.par d) | some (some (.par d)) => some (.par d) | _ => none) = _; rw [e]
    · show (match ρ[i]? with | some (some (.dat d)) => some (SV.dat d) | some (some (.own d)) => some (.par d) | some (some (.par d)) => some (.par d) | _ => none) = _; rw [e]
  unfold callK
  have ha : argsOf ρ [.dat d, .bor i] = some [.dat d, .par (.list h)] := by
    show (match argOf ρ (.dat d), (match argOf ρ (.bor i), argsOf ρ [] with
      | some a, some as => some (a :: as)
      | _, _ => none) with
      | some a, some as => some (a :: as)
      | _, _ => none) = _
    rw [ka]
    rfl
  rw [ha]
  simp [q, bors, retV, putOuts]
/-! wrapped -/
def edI (P : D → Prop) (_ : List Nat) (ρ : PD.Env) : Prop := ∃ (h : Hnd) (x : D) (tu : Option D), Hnd.Ok h ∧ P x ∧ ρ = V_l_deep (some (.dat x)) (some (.par (.list (hd h)))) (nx tu)
def edQ (P : D → Prop) (o : SO) : Prop := ∃ (h : Hnd) (x : D), Hnd.Ok h ∧ P x ∧ ∃ ρ', o = .ret (.dat x) ρ' ∧ ρ'[1]? = some (some (.par (.list (hd h))))
theorem e_deep {h : Hnd} (ok : h.Ok) {P : D → Prop} {x : D} (hx : P x) (hl : ∀ y, P y → P (.list [y])) (ht : ∀ y, P y → P (.tuple [y, .str "?"])) : ∃ h' y, Hnd.Ok h' ∧ P y ∧ EvQ g_l_deep x (hd h) y (hd h') := by
  suffices edQ P (k_l_deep_1 (V_l_deep (some (.dat x)) (some (.par (.list (hd h)))))) by
    obtain ⟨h', y, h1, h2, h3⟩ := this
    exact ⟨h', y, h1, h2, EvQ_go eq_l_deep h3⟩
  obtain ⟨h1, n, ok1, n0, n1, q1⟩ := e_draw ok (many := 6) (by omega) (by omega)
  unfold k_l_deep_1
  simp only [seq_eq]
  refine for_run (Q := edQ P) (List.range n.toNat) (fun i => .int (0 + (i : Int))) (edI P) (ρ1 := V_l_deep (some (.dat x)) (some (.par (.list (hd h1))))) (by simp [edQ]) ?_ ?_ ?_ ?_
  · simp [cP2 q1, rOk_mk (i := n) (by omega) (by omega), rangeD_eq]
  · exact ⟨h1, x, none, ok1, hx, rfl⟩
  · rintro pre i post ρ e ⟨h2, y, tu, ok2, hy, rfl⟩
    obtain ⟨h3, z, ok3, z0, z1, q3⟩ := e_draw ok2 (many := 2) (by omega) (by omega)
    refine ⟨_, by simp; rfl, ?_⟩
    unfold k_l_deep_1b_1
    by_cases e0 : z = 0
    · simp [cP2 q3, e0]
      exact ⟨h3, _, some (.int i), ok3, hl y hy, rfl⟩
    · simp [cP2 q3, e0]
      exact ⟨h3, _, some (.int i), ok3, ht y hy, rfl⟩
  · rintro ρ ⟨h2, y, tu, ok2, hy, rfl⟩
    unfold k_l_deep_2
    simp
    exact ⟨h2, y, ok2, hy, _, rfl, rfl⟩
section
variable {ls : List Int} {o t : Nat} {e : Int}
theorem j_nt (g : Ln ls) (ho : o < ls.length) (ht : t < ls.length) (e0 : 0 ≤ e) (e1 : e ≤ 1000) {x : D} (h : dIsTuple x = false) : Ev g_p_is_hidden_told [gD ls, .int o, .int t, .int e, x] (.bool false) := by
  refine j_go g ho ht e0 e1 ?_
  unfold k_p_is_hidden_told_5
  simp [h]
theorem j_len (g : Ln ls) (ho : o < ls.length) (ht : t < ls.length) (e0 : 0 ≤ e) (e1 : e ≤ 1000) {xs : List D} (h : ¬ (xs.length = 1 ∨ xs.length = 2)) : Ev g_p_is_hidden_told [gD ls, .int o, .int t, .int e, .tuple xs] (.bool false) := by
  refine j_go g ho ht e0 e1 ?_
  unfold k_p_is_hidden_told_5
  simp [dIsTuple, in12, h]
theorem j_2 (g : Ln ls) (ho : o < ls.length) (ht : t < ls.length) (e0 : 0 ≤ e) (e1 : e ≤ 1000) {y x : D} (h : dIsStr y = false ∨ y = .str "?" ∨ y = .str "seen") : Ev g_p_is_hidden_told [gD ls, .int o, .int t, .int e, .tuple [y, x]] (.bool false) := by
  refine j_go g ho ht e0 e1 ?_
  unfold k_p_is_hidden_told_5
  have i0 : dIx (.tuple [y, x]) (.int 0) = some (.dat y) := tx0 _ _
  have n2 := in12 2
  simp at n2
  rcases h with h | rfl | rfl
  · simp [dIsTuple, n2, i0, h]
  · have ne : dNe (.str "?") (.str "hill") = some (.dat (.bool true)) := by rw [dNe_str']; rfl
    simp [dIsTuple, n2, i0, dIsStr]
    unfold k_p_is_hidden_told_6
    simp
    unfold k_p_is_hidden_told_7
    simp [i0, ne]
  · have ne : dNe (.str "seen") (.str "hill") = some (.dat (.bool true)) := by rw [dNe_str']; rfl
    simp [dIsTuple, n2, i0, dIsStr]
    unfold k_p_is_hidden_told_6
    simp
    unfold k_p_is_hidden_told_7
    simp [i0, ne]
theorem j_1h (g : Ln ls) (ho : o < ls.length) (ht : t < ls.length) (e0 : 0 ≤ e) (e1 : e ≤ 1000) : Ev g_p_is_hidden_told [gD ls, .int o, .int t, .int e, .tuple [.str "hill"]] (.bool false) := by
  refine j_go g ho ht e0 e1 ?_
  unfold k_p_is_hidden_told_5
  have i0 : dIx (.tuple [.str "hill"]) (.int 0) = some (.dat (.str "hill")) := tx0 _ _
  have n1 := in12 1
  simp at n1
  have ne : dEq (.str "hill") (.str "seen") = some (.dat (.bool false)) := by rw [dEq_str]; rfl
  simp [dIsTuple, n1, i0, dIsStr]
  unfold k_p_is_hidden_told_6
  simp [i0, ne]
theorem j_far (g : Ln ls) (ho : o < ls.length) (ht : t < ls.length) (e0 : 0 ≤ e) (e1 : e ≤ 1000) {z : Int} (h : z < 0 ∨ (ls.length : Int) ≤ z) : Ev g_p_is_hidden_told [gD ls, .int o, .int t, .int e, .tuple [.str "hill", .int z]] (.bool false) := by
  have hm := mnN_f o t
  have hx := mxN_f o t
  refine j_go g ho ht e0 e1 ?_
  unfold k_p_is_hidden_told_5
  have i0 : dIx (.tuple [.str "hill", .int z]) (.int 0) = some (.dat (.str "hill")) := tx0 _ _
  have i1 : dIx (.tuple [.str "hill", .int z]) (.int 1) = some (.dat (.int z)) := tx1 _ _ _
  have n1 := in12 2
  simp at n1
  simp [dIsTuple, n1, i0, dIsStr]
  unfold k_p_is_hidden_told_6
  simp
  unfold k_p_is_hidden_told_7
  have nh : dNe (.str "hill") (.str "hill") = some (.dat (.bool false)) := dNe_ss _
  have wb : (decide (((mnN o t : Nat) : Int) + 1 ≤ z) && decide (z ≤ ((mxN o t : Nat) : Int) - 1)) = false := by
    rw [Bool.eq_false_iff]
    simp
    omega
  simp [i0, i1, nh, mn2, mx2, wb]
def Wr (ls : List Int) (o t : Nat) (e : Int) (x : D) : Prop := (dIsStr x = false ∨ x = .str "?") ∧ Ev g_p_is_hidden_told [gD ls, .int o, .int t, .int e, x] (.bool false)
theorem wr_all (g : Ln ls) (ho : o < ls.length) (ht : t < ls.length) (e0 : 0 ≤ e) (e1 : e ≤ 1000) {x : D} (hx : x ∈ ([.str "?", .none, .int 0, .tuple [], .list [.str "seen"], .tuple [.str "seen", .int 0], .tuple [.str "hill"], .tuple [.str "hill", .int ls.length], .tuple [.str "hill", .int (-1)], .tuple [.str "?", .int 0], .dict []] : List D)) : Wr ls o t e x := by
  simp only [List.mem_cons, List.not_mem_nil, or_false] at hx
  rcases hx with rfl | rfl | rfl | rfl | rfl | rfl | rfl | rfl | rfl | rfl | rfl
  · exact ⟨.inr rfl, j_nt g ho ht e0 e1 rfl⟩
  · exact ⟨.inl rfl, j_nt g ho ht e0 e1 rfl⟩
  · exact ⟨.inl rfl, j_nt g ho ht e0 e1 rfl⟩
  · exact ⟨.inl rfl, j_len g ho ht e0 e1 (by simp)⟩
  · exact ⟨.inl rfl, j_nt g ho ht e0 e1 rfl⟩
  · exact ⟨.inl rfl, j_2 g ho ht e0 e1 (.inr (.inr rfl))⟩
  · exact ⟨.inl rfl, j_1h g ho ht e0 e1⟩
  · exact ⟨.inl rfl, j_far g ho ht e0 e1 (.inr (by omega))⟩
  · exact ⟨.inl rfl, j_far g ho ht e0 e1 (.inl (by omega))⟩
  · exact ⟨.inl rfl, j_2 g ho ht e0 e1 (.inr (.inl rfl))⟩
  · exact ⟨.inl rfl, j_nt g ho ht e0 e1 rfl⟩
theorem wr_deep (g : Ln ls) (ho : o < ls.length) (ht : t < ls.length) (e0 : 0 ≤ e) (e1 : e ≤ 1000) {h : Hnd} (ok : h.Ok) {x : D} (w : Wr ls o t e x) : ∃ h' y, Hnd.Ok h' ∧ Wr ls o t e y ∧ EvQ g_l_deep x (hd h) y (hd h') :=
  e_deep ok (P := Wr ls o t e) w (fun y _ => ⟨.inl rfl, j_nt g ho ht e0 e1 rfl⟩) (fun y wy => ⟨.inl rfl, j_2 g ho ht e0 e1 (wy.1.elim .inl (fun w => .inr (.inl w)))⟩)
end
end LW

namespace LW
open PySem PD
section
variable {ls : List Int} {o t : Nat} {e : Int}
def lowF (ls : List Int) (o t i : Nat) : Int := if i = o ∨ i = t then gx ls i else min (gx ls i) (gx ls t)
def lowL (ls : List Int) (o t : Nat) : List Int := (List.range ls.length).map (lowF ls o t)
@[simp] theorem low_len (ls : List Int) (o t : Nat) : (lowL ls o t).length = ls.length := by simp [lowL]
theorem low_at (ls : List Int) (o t : Nat) {i : Nat} (h : i < ls.length) : gx (lowL ls o t) i = lowF ls o t i := by
  unfold lowL gx
  rw [List.getD_eq_getElem?_getD, List.getElem?_map, List.getElem?_range h]
  rfl
theorem low_ln (g : Ln ls) (ht : t < ls.length) : Ln (lowL ls o t) := by
  have gt := gx_b g ht
  have key : ∀ i, i < ls.length → 0 ≤ lowF ls o t i ∧ lowF ls o t i ≤ 1000 := fun i hi => by
    have := gx_b g hi
    unfold lowF
    split <;> omega
  refine ⟨by simpa using g.l2, by simpa using g.l8, fun x hx => ?_, fun x hx => ?_⟩
  · obtain ⟨i, hi, rfl⟩ := List.mem_map.mp hx
    exact (key i (List.mem_range.mp hi)).1
  · obtain ⟨i, hi, rfl⟩ := List.mem_map.mp hx
    exact (key i (List.mem_range.mp hi)).2
theorem low_seen (g : Ln ls) (ho : o < ls.length) (ht : t < ls.length) (h : gx ls t ≤ gx ls o + e) : toldH (lowL ls o t) o t e = .tuple [.str "seen"] := by
  have hm := mnN_f o t
  have hx := mxN_f o t
  have fd : (wayL o t).find? (viol (lowL ls o t) o t e) = none := by
    rw [List.find?_eq_none]
    intro p hp
    rw [mem_way] at hp
    have hpl : p < ls.length := by omega
    have eo : gx (lowL ls o t) o = gx ls o := by rw [low_at _ _ _ ho]; unfold lowF; rw [if_pos (.inl rfl)]
    have et : gx (lowL ls o t) t = gx ls t := by rw [low_at _ _ _ ht]; unfold lowF; rw [if_pos (.inr rfl)]
    have ep : gx (lowL ls o t) p ≤ gx ls t := by rw [low_at _ _ _ hpl]; unfold lowF; rw [if_neg (by omega)]; omega
    unfold viol
    rw [eo, et]
    have w0 : 0 ≤ W o t := by unfold W; omega
    have w1 : 0 ≤ W o t - W o p := by
      unfold W mxN mnN at *
      omega
    have a := Int.mul_le_mul_of_nonneg_right ep w0
    have b := Int.mul_le_mul_of_nonneg_right h w1
    have c : gx ls t * (W o t - W o p) + gx ls t * W o p = gx ls t * W o t := by grind
    rw [decide_eq_true_eq]
    omega
  unfold toldH
  rw [fd]
/-- the law's hills and the program's word -/
def hillL (ls : List Int) (o t : Nat) (e : Int) : List Nat := (wayL o t).filter (viol ls o t e)
theorem hill_sees (ho : o < ls.length) (ht : t < ls.length) : decide ((hillL ls o t e).length = 0) = seesB ls o t e := by
  rw [Bool.eq_iff_iff, decide_eq_true_eq, sees_iff ho ht, List.length_eq_zero_iff]
  unfold hillL
  rw [List.filter_eq_nil_iff]
  constructor
  · intro h p h1 h2
    have := h p (mem_way.mpr ⟨h1, h2⟩)
    simpa using this
  · intro h p hp
    rw [mem_way] at hp
    rw [h p hp.1 hp.2]
    simp
theorem told_nil (h : hillL ls o t e = []) : toldH ls o t e = .tuple [.str "seen"] := by
  unfold hillL at h
  rw [List.filter_eq_nil_iff] at h
  unfold toldH
  rw [List.find?_eq_none.mpr h]
theorem told_cons {p : Nat} {l : List Nat} (h : hillL ls o t e = p :: l) : toldH ls o t e = .tuple [.str "hill", .int (p : Nat)] := by
  have hh : (hillL ls o t e).head? = (wayL o t).find? (viol ls o t e) := List.head?_filter ..
  rw [h] at hh
  unfold toldH
  rw [← hh]
  rfl
theorem in_hill {p : Nat} : dInB false (.int p) (.list ((hillL ls o t e).map fun (p : Nat) => .int p)) = some (.dat (.bool (btw o t p && viol ls o t e p))) := by
  have := dIn_ints false (p : Int) ((hillL ls o t e).map fun (p : Nat) => (p : Int))
  rw [List.map_map] at this
  simp only [Bool.false_eq_true, if_false] at this
  have e2 : ((hillL ls o t e).map (PyData.int ∘ fun (p : Nat) => (p : Int))) = (hillL ls o t e).map fun (p : Nat) => PyData.int p := rfl
  rw [e2] at this
  rw [this]
  congr 3
  rw [Bool.eq_iff_iff, decide_eq_true_eq, List.mem_map]
  unfold hillL btw
  constructor
  · rintro ⟨q, hq, eq⟩
    obtain rfl : q = p := by omega
    rw [List.mem_filter, mem_way] at hq
    simp [hq.1.1, hq.1.2, hq.2]
  · intro h
    simp at h
    exact ⟨p, by rw [List.mem_filter, mem_way]; exact ⟨⟨h.1.1, h.1.2⟩, h.2⟩, rfl⟩
end
end LW

namespace LW
open PySem PD
theorem log_le {i : Int} (h : i.natAbs < 2 ^ 40) : i.natAbs.log2 < 1920 := by
  by_cases z : i.natAbs = 0
  · rw [z]; decide
  · have := (Nat.log2_lt z).mpr h
    omega
theorem rep_int {i : Int} (h : i.natAbs < 2 ^ 40) : repOk (.int i) = true := by
  simp only [repOk]
  exact decide_eq_true (log_le h)
theorem enum_gx (xs : List Int) : enumD 0 (xs.map PyData.int) = (List.range xs.length).map fun i => .tuple [.int (i : Nat), .int (gx xs i)] := by
  rw [enumD_eq]
  apply List.ext_getElem
  · simp
  · intro i h1 h2
    simp at h1 h2
    simp [gx, List.getD_eq_getElem?_getD, h1]
structure Rp (d : D) (n m : Nat) : Prop where
  rep : repOk d = true
  dep : d.depth ≤ n
  blk : d.bulk ≤ m
theorem all_rp {n m : Nat} : ∀ {xs : List D}, (∀ d ∈ xs, Rp d n m) → repOkAll xs = true ∧ PyData.depthAll xs ≤ n ∧ PyData.bulkAll xs ≤ (m + 1) * xs.length
  | [], _ => ⟨rfl, by simp [PyData.depthAll], by simp [PyData.bulkAll]⟩
  | x :: xs, h => by
    obtain ⟨a, b, c⟩ := all_rp fun d hd => h d (List.mem_cons_of_mem _ hd)
    have hx := h x List.mem_cons_self
    have h1 := hx.dep
    have h2 := hx.blk
    refine ⟨by simp only [repOkAll, hx.rep, a, Bool.and_self], by simp only [PyData.depthAll]; omega, ?_⟩
    simp only [PyData.bulkAll, List.length_cons, Nat.mul_add]
    omega
theorem rp_tup {n m : Nat} {xs : List D} (h : ∀ d ∈ xs, Rp d n m) : Rp (.tuple xs) (n + 1) ((m + 1) * xs.length + 1) := by
  obtain ⟨a, b, c⟩ := all_rp h
  exact ⟨by simp only [repOk, a], by simp only [PyData.depth]; omega, by simp only [PyData.bulk]; omega⟩
theorem rp_lst {n m : Nat} {xs : List D} (h : ∀ d ∈ xs, Rp d n m) : Rp (.list xs) (n + 1) ((m + 1) * xs.length + 1) := by
  obtain ⟨a, b, c⟩ := all_rp h
  exact ⟨by simp only [repOk, a], by simp only [PyData.depth]; omega, by simp only [PyData.bulk]; omega⟩
theorem Rp.mono {d : D} {n m n' m' : Nat} (h : Rp d n m) (h1 : n ≤ n') (h2 : m ≤ m') : Rp d n' m' := ⟨h.rep, by have := h.dep; omega, by have := h.blk; omega⟩
theorem Rp.ok {d : D} {n m : Nat} (h : Rp d n m) (h1 : n ≤ 60) (h2 : m ≤ 8000) : rpOk d = true := rp_of_bulk h.rep (by have := h.dep; omega) (by have := h.blk; omega)
theorem rp_int {i : Int} (h : i.natAbs < 2 ^ 40) : Rp (.int i) 1 10 := ⟨rep_int h, by simp [PyData.depth], by simp [PyData.bulk]⟩
theorem rp_bool (b : Bool) : Rp (.bool b) 1 10 := ⟨rfl, by simp [PyData.depth], by simp [PyData.bulk]⟩
theorem is_same {a : D} (h : rpOk a = true) : Ev g_l_is [a, a] (.bool true) := by
  refine go_l_is ?_
  unfold k_l_is_1
  simp [r_repr h, dEq_ss]
theorem is_bool (b : Bool) : Ev g_l_is [.bool b, .bool b] (.bool true) := is_same ((rp_bool b).ok (by omega) (by omega))
abbrev RE (ls : List Int) (e : Int) (h : Hnd) (tu on ot hi du pl lw so od : Option D) : PD.Env := V_l_right (some (.par (.list (hd h)))) (some (.dat (.int ls.length))) (nx tu) (some (.dat (gD ls))) (some (.dat (.int e))) (nx on) (nx ot) (nx hi) (nx du) (nx pl) (nx lw) (nx so) (nx od)
def rI (ls : List Int) (e : Int) (_ : List Nat) (ρ : PD.Env) : Prop := ∃ h tu on ot hi du pl lw so od, Hnd.Ok h ∧ ρ = RE ls e h tu on ot hi du pl lw so od
def rpI (ls : List Int) (e : Int) (h : Hnd) (tu on ot hi du lw so od : Option D) (_ : List Nat) (ρ : PD.Env) : Prop := ∃ pl, ρ = RE ls e h tu on ot hi du pl lw so od
def rQ (o : SO) : Prop := ∃ h, Hnd.Ok h ∧ RetsP (.bool true) (hd h) o
section
variable {ls : List Int} {o t : Nat} {e : Int}
theorem told_mem (ho : o < ls.length) (ht : t < ls.length) : toldH ls o t e = .tuple [.str "seen"] ∨ ∃ p : Nat, p < ls.length ∧ toldH ls o t e = .tuple [.str "hill", .int p] := by
  have hm := mnN_f o t
  have hx := mxN_f o t
  cases h : hillL ls o t e with
  | nil => exact .inl (told_nil h)
  | cons p l =>
    refine .inr ⟨p, ?_, told_cons h⟩
    have : p ∈ hillL ls o t e := by rw [h]; simp
    unfold hillL at this
    rw [List.mem_filter, mem_way] at this
    omega
theorem told_rp (g : Ln ls) (ho : o < ls.length) (ht : t < ls.length) (b : Bool) : rpOk (.list [toldH ls o t e, .bool b]) = true := by
  have l8 := g.l8
  have s1 : ("seen" : Str).cps.size = 4 := rfl
  have s2 : ("hill" : Str).cps.size = 4 := rfl
  rcases told_mem (e := e) ho ht with q | ⟨p, hp, q⟩
  · rw [q]
    cases b <;> decide
  · rw [q]
    have r := rep_int (i := (p : Int)) (by omega)
    refine rp_of_bulk ?_ ?_ ?_
    · simp only [repOk, repOkAll, Bool.and_true] at r ⊢
      simp only [r, Bool.and_true]
      decide
    · simp [PyData.depth, PyData.depthAll]
    · simp [PyData.bulk, PyData.bulkAll, s2]
/-- one turn, from the law's hills on -/
theorem e_turn (g : Ln ls) (ho : o < ls.length) (ht : t < ls.length) (ne : o ≠ t) (e0 : 0 ≤ e) (e1 : e ≤ 1000) {h : Hnd} (ok : h.Ok) (pre : List Nat) (i : Nat) (tu hi du pl lw so od : Option D) {B : PD.Env → Prop} {Q : SO → Prop} (hn : ¬ Q .no) :
    PD.Runs (rI ls e (pre ++ [i])) B Q (k_l_right_3b_2t_1 (RE ls e h tu (some (.int o)) (some (.int t)) hi du pl lw so od)) := by
  have l2 := g.l2
  have l8 := g.l8
  have hm := mnN_f o t
  have hx := mxN_f o t
  have eh := e_hills g ho ht e0 e1
  have hs := hill_sees (e := e) ho ht
  have eL : (wayL o t).filter (viol ls o t e) = hillL ls o t e := rfl
  rw [eL] at eh
  unfold k_l_right_3b_2t_1
  simp [call4O eh]
  unfold k_l_right_3b_2t_2
  have due : ∀ (k : D → Prop), k (toldH ls o t e) → True := fun _ _ => trivial
  have st3 : PD.Runs (rI ls e (pre ++ [i])) B Q (k_l_right_3b_2t_3 (RE ls e h tu (some (.int o)) (some (.int t)) (some (.list ((hillL ls o t e).map fun (p : Nat) => .int p))) (some (toldH ls o t e)) pl lw so od)) := by
    have hs' : decide (hillL ls o t e = []) = seesB ls o t e := by
      rw [← hs]
      exact decide_eq_decide.mpr List.length_eq_zero_iff.symm
    unfold k_l_right_3b_2t_3
    simp [call4 (t_hidden g ho ht e0 e1), call4 (t_sees g ho ht e0 e1), hs', call2 (is_same (told_rp g ho ht (seesB ls o t e)))]
    unfold k_l_right_3b_2t_4
    have near : (if (o : Int) - t < 0 then -((o : Int) - t) else (o : Int) - t) = 1 → (hillL ls o t e).length = 0 := by
      intro h1
      rw [List.length_eq_zero_iff]
      unfold hillL
      rw [List.filter_eq_nil_iff]
      intro p hp
      rw [mem_way] at hp
      split at h1 <;> omega
    have st5 : PD.Runs (rI ls e (pre ++ [i])) B Q (k_l_right_3b_2t_5 (RE ls e h tu (some (.int o)) (some (.int t)) (some (.list ((hillL ls o t e).map fun (p : Nat) => .int p))) (some (toldH ls o t e)) pl lw so od)) := by
      unfold k_l_right_3b_2t_5
      simp only [seq_eq]
      refine for_grun (List.range ls.length) (fun i => .int (0 + (i : Int))) (rpI ls e h tu (some (.int o)) (some (.int t)) (some (.list ((hillL ls o t e).map fun (p : Nat) => .int p))) (some (toldH ls o t e)) lw so od) hn ?_ ⟨pl, rfl⟩ ?_ ?_
      · simp [rOk_mk (i := (ls.length : Int)) (by omega) (by omega), rangeD_eq]
      · rintro pre2 p post2 ρ ep ⟨pl, rfl⟩
        obtain ⟨rfl, hp, _⟩ := range_split ep
        refine ⟨_, by simp; rfl, ?_⟩
        unfold k_l_right_3b_2t_5b_1
        simp [call5 (j_hill g ho ht e0 e1 hp), in_hill, call2 (is_bool _)]
        exact ⟨some (.int pre2.length), rfl⟩
      · rintro ρ ⟨pl, rfl⟩
        unfold k_l_right_3b_2t_6
        simp [call5 (j_seen g ho ht e0 e1), hs', call2 (is_bool _)]
        unfold k_l_right_3b_2t_7
        have lc := lc_all k_l_right_3b_2t_7c1 rfl (List.range ls.length) (fun i => .tuple [.int (i : Nat), .int (gx ls i)]) (fun i => .int (lowF ls o t i)) (ρ := V_l_right (some (.par (.list (hd h)))) (some (.dat (.int ls.length))) (nx tu) (some (.dat (gD ls))) (some (.dat (.int e))) (some (.dat (.int o))) (some (.dat (.int t))) (some (.dat (.list ((hillL ls o t e).map fun (p : Nat) => .int p)))) (some (.dat (toldH ls o t e))) (nx pl) (nx lw) (nx so) (nx od)) (by
          have en := enum_gx ls
          simp [gD, en]) (by simp) (by simp; omega) (by simp) (fun i hi => by
          rw [List.mem_range] at hi
          have ii := dIn_intsT true (i : Int) [(o : Int), (t : Int)]
          simp only [List.map_cons, List.map_nil, if_true] at ii
          have gti := g_at ls ht rfl
          by_cases q : i = o ∨ i = t
          · have d1 : decide ((i : Int) ∈ [(o : Int), (t : Int)]) = true := by rw [decide_eq_true_eq]; simp; omega
            rw [d1] at ii
            have lf : lowF ls o t i = gx ls i := by unfold lowF; rw [if_pos q]
            simp [LcEl, ii, lf]
          · have d1 : decide ((i : Int) ∈ [(o : Int), (t : Int)]) = false := by rw [decide_eq_false_iff_not]; simp; omega
            rw [d1] at ii
            have lf : (if gx ls t < gx ls i then gx ls t else gx ls i) = lowF ls o t i := by
              unfold lowF
              rw [if_neg q]
              split <;> omega
            simp [LcEl, ii, gti, lf])
        have el : (List.range ls.length).map (fun i => PyData.int (lowF ls o t i)) = (lowL ls o t).map PyData.int := by unfold lowL; rw [List.map_map]; rfl
        rw [el] at lc
        simp only [V_l_right] at lc
        have tl : dTuple (.list ((lowL ls o t).map PyData.int)) = some (.dat (gD (lowL ls o t))) := rfl
        generalize hLW : (lowL ls o t).map PyData.int = LW0 at *
        simp only [RE, V_l_right, nx_some]
        simp [lc]
        have st9 : ∀ lw, PD.Runs (rI ls e (pre ++ [i])) B Q (k_l_right_3b_2t_9 (RE ls e h tu (some (.int o)) (some (.int t)) (some (.list ((hillL ls o t e).map fun (p : Nat) => .int p))) (some (toldH ls o t e)) pl lw so od)) := by
          intro lw
          obtain ⟨h1, x, ok1, hx, q1⟩ := e_some ok (xs := [.str "?", .none, .int 0, .tuple [], .list [.str "seen"], .tuple [.str "seen", .int 0], .tuple [.str "hill"], .tuple [.str "hill", .int ls.length], .tuple [.str "hill", .int (-1)], .tuple [.str "?", .int 0], .dict []]) (by simp) (by simp)
          obtain ⟨h2, y, ok2, wy, q2⟩ := wr_deep g ho ht e0 e1 ok1 (wr_all g ho ht e0 e1 hx)
          unfold k_l_right_3b_2t_9
          simp
          unfold k_l_right_3b_2t_10
          simp [cP2 q1, cQ q2]
          unfold k_l_right_3b_2t_11
          simp [call5 wy.2, call2 (is_bool false)]
          exact ⟨h2, tu, some (.int o), some (.int t), some _, some _, pl, lw, some _, some y, ok2, rfl⟩
        unfold k_l_right_3b_2t_8
        have gti := g_at ls ht rfl
        have goi := g_at ls ho rfl
        by_cases hi : gx ls t ≤ gx ls o + e
        · have th := t_hidden (low_ln (o := o) g ht) (o := o) (t := t) (by simpa using ho) (by simpa using ht) e0 e1
          rw [low_seen g ho ht hi] at th
          have dn : dNe (.tuple [.str "seen"]) (.tuple [.str "seen"]) = some (.dat (.bool false)) := dNe_same (n := 1) ⟨by decide, by decide⟩
          simp [gti, goi, hi, tl, call4 th, dn]
          exact st9 (some _)
        · simp [gti, goi, hi]
          exact st9 (some _)
    by_cases nr : (if (o : Int) - t < 0 then -((o : Int) - t) else (o : Int) - t) = 1
    · have z := near nr
      simp [nr, z]
      exact st5
    · simp [nr]
      exact st5
  cases hl : hillL ls o t e with
  | nil =>
    have := told_nil hl
    rw [hl, this] at st3
    simp
    exact st3
  | cons p l =>
    have := told_cons hl
    rw [hl, this] at st3
    have i0 : dIx (.list ((p :: l).map fun (p : Nat) => .int p)) (.int 0) = some (.dat (.int (p : Nat))) := dIx_l (n := 0) rfl rfl
    simp at i0 st3
    simp [i0, show ¬ ((l.length : Int) + 1 = 0) by omega]
    exact st3
end
end LW

namespace LW
open PySem PD
theorem e_right {h : Hnd} (ok : h.Ok) : ∃ h', Hnd.Ok h' ∧ EvP g_l_right (hd h) [] (.dat (.bool true)) (hd h') := by
  suffices rQ (k_l_right_1 (V_l_right (some (.par (.list (hd h)))))) by
    obtain ⟨h', a, b⟩ := this
    exact ⟨h', a, goP_l_right b⟩
  obtain ⟨h1, ls, ok1, g, q1⟩ := e_line ok
  obtain ⟨h2, e, ok2, e0, e1, q2⟩ := e_eye ok1
  have l2 := g.l2
  have l8 := g.l8
  unfold k_l_right_1
  simp [cP2 q1, cP1 q2]
  unfold k_l_right_2
  simp
  unfold k_l_right_3
  simp only [seq_eq]
  refine for_run (Q := rQ) (List.range 4) (fun i => .int (0 + (i : Int))) (rI ls e) (ρ1 := RE ls e h2 none none none none none none none none none) (by simp [rQ]) (by rfl) ⟨h2, none, none, none, none, none, none, none, none, none, ok2, rfl⟩ ?_ ?_
  · rintro pre i post ρ ep ⟨h, tu, on, ot, hi, du, pl, lw, so, od, ok, rfl⟩
    obtain ⟨h3, o, ok3, o0, o1, q3⟩ := e_draw ok (many := ls.length) (by omega) (by omega)
    obtain ⟨o, rfl⟩ : ∃ m : Nat, o = m := ⟨o.toNat, by omega⟩
    obtain ⟨h4, t, ok4, t0, t1, q4⟩ := e_draw ok3 (many := ls.length) (by omega) (by omega)
    obtain ⟨t, rfl⟩ : ∃ m : Nat, t = m := ⟨t.toNat, by omega⟩
    have ho : o < ls.length := by omega
    have ht : t < ls.length := by omega
    refine ⟨_, by simp; rfl, ?_⟩
    unfold k_l_right_3b_1
    simp [cP2 q3, cP2 q4]
    unfold k_l_right_3b_2
    by_cases ne : o = t
    · simp [ne]
      exact ⟨h4, some (.int i), some (.int t), some (.int t), hi, du, pl, lw, so, od, ok4, rfl⟩
    · have ne' : ¬ (o : Int) = t := by omega
      simp [ne']
      exact e_turn g ho ht ne e0 e1 ok4 pre i (some (.int i)) hi du pl lw so od (by simp [rQ])
  · rintro ρ ⟨h, tu, on, ot, hi, du, pl, lw, so, od, ok, rfl⟩
    unfold k_l_right_4
    simp
    exact ⟨h, ok, by simp⟩
theorem e_bad {h : Hnd} (ok : h.Ok) : ∃ h' x, Hnd.Ok h' ∧ Ev g_p_is_line [x] (.bool false) ∧ EvP g_l_no_line (hd h) [] (.dat x) (hd h') := by
  have m25 : dMul (.tuple [.int 0]) (.int 25) = some (.dat (.tuple (List.replicate 25 (.int 0)))) := rfl
  obtain ⟨h1, x, ok1, hx, q1⟩ := e_some ok (xs := [.str "?", .none, .int 0, .tuple [], .tuple [.int 1], .list [.int 1, .int 2], .tuple [.int 1, .int 1001], .tuple [.int (-1), .int 2], .tuple [.bool true, .int 2], .tuple (List.replicate 25 (.int 0)), .tuple [.str "1", .int 2], .dict []]) (by simp) (by simp)
  refine ⟨h1, x, ok1, ?_, goP_l_no_line ?_⟩
  · simp only [List.mem_cons, List.not_mem_nil, or_false] at hx
    rcases hx with rfl | rfl | rfl | rfl | rfl | rfl | rfl | rfl | rfl | rfl | rfl | rfl <;> exact ⟨_, rfl⟩
  · generalize List.replicate 25 (PyData.int 0) = L at q1 m25
    unfold k_l_no_line_1
    simp [m25]
    unfold k_l_no_line_2
    simp [cP2 q1]
theorem e_far {h : Hnd} (ok : h.Ok) : ∃ h' x, Hnd.Ok h' ∧ withinB x 0 2 = false ∧ EvP g_l_no_place (hd h) [.int 3] (.dat x) (hd h') := by
  obtain ⟨h1, x, ok1, hx, q1⟩ := e_some ok (xs := [.str "?", .none, .int (-1), .int 3, .bool true, .tuple [.int 0]]) (by simp) (by simp)
  refine ⟨h1, x, ok1, ?_, goP_l_no_place ?_⟩
  · simp only [List.mem_cons, List.not_mem_nil, or_false] at hx
    rcases hx with rfl | rfl | rfl | rfl | rfl | rfl <;> rfl
  · unfold k_l_no_place_1
    simp [cP2 q1]
theorem e_noeye {h : Hnd} (ok : h.Ok) : ∃ h' x, Hnd.Ok h' ∧ withinB x 0 1000 = false ∧ EvP g_l_no_eye (hd h) [] (.dat x) (hd h') := by
  obtain ⟨h1, x, ok1, hx, q1⟩ := e_some ok (xs := [.str "?", .none, .int (-1), .int 1001, .bool true, .tuple [.int 1]]) (by simp) (by simp)
  refine ⟨h1, x, ok1, ?_, goP_l_no_eye ?_⟩
  · simp only [List.mem_cons, List.not_mem_nil, or_false] at hx
    rcases hx with rfl | rfl | rfl | rfl | rfl | rfl <;> rfl
  · unfold k_l_no_eye_1
    simp [cP2 q1]
theorem told_g {m : ME} {ρ : PD.Env} {x : Str} (hx : x = "NoLine" ∨ x = "NoNumber") (h : excOf (m (datE ρ)) = some x) : mTold 2 m t_told ρ = .ok (.thg (.exc x)) ρ := by
  rcases hx with rfl | rfl
  · exact mTold_thg h rfl
  · exact mTold_thg h rfl
theorem chkN {m : ME} {ρ : PD.Env} (h : excOf (m (datE ρ)) = some "NoNumber") (k : MS) : sSeq (sIf (bNot (bT (mIsX xnames (fun c => decide (c = ("NoNumber" : Str))) (mTold 2 m t_told)))) (sRet (mC (.bool false))) (sPass)) k ρ = k ρ := by
  have hx : ("NoNumber" : Str) ∈ xnames := by decide
  rw [seq_eq]
  simp only [r_sIf, r_bNot, r_bT, r_mIsX]
  rw [told_g (.inr rfl) h]
  simp [hx]
section
variable {x y z : D}
theorem x_line (h : Ev g_p_is_line [x] (.bool false)) : EvX g_p_check_line [x] "NoLine" := goX_p_check_line (by
  unfold k_p_check_line_1
  simp [call1 h])
theorem x_num {m : Int} (h : withinB y 0 m = false) : EvX g_p_check_number [y, .int 0, .int m] "NoNumber" := goX_p_check_number (by
  unfold k_p_check_number_1
  simp [h])
theorem x_h1 (h : Ev g_p_is_line [x] (.bool false)) (y z w : D) : EvX g_p_hidden_told [x, y, z, w] "NoLine" := goX_p_hidden_told (by
  unfold k_p_hidden_told_1
  simp [call1X (x_line h)])
theorem x_j1 (h : Ev g_p_is_line [x] (.bool false)) (y z w v : D) : EvX g_p_is_hidden_told [x, y, z, w, v] "NoLine" := goX_p_is_hidden_told (by
  unfold k_p_is_hidden_told_1
  simp [call1X (x_line h)])
end
abbrev L3 : D := .tuple [.int 1, .int 2, .int 3]
theorem l3 : Ev g_p_check_line [L3] .none := ⟨_, rfl⟩
theorem ln3 : dLen L3 = some (.dat (.int 3)) := rfl
theorem x_pl {y : D} (h : withinB y 0 2 = false) : EvX g_p_check_place [L3, y] "NoNumber" := goX_p_check_place (by
  unfold k_p_check_place_1
  simp [call3X (x_num h)])
theorem p0 : Ev g_p_check_place [L3, .int 0] .none := ⟨_, rfl⟩
theorem x_h2 {y : D} (h : withinB y 0 2 = false) (z w : D) : EvX g_p_hidden_told [L3, y, z, w] "NoNumber" := goX_p_hidden_told (by
  unfold k_p_hidden_told_1
  simp [call1 l3]
  unfold k_p_hidden_told_2
  simp [call2X (x_pl h)])
theorem x_h3 {y : D} (h : withinB y 0 2 = false) (w : D) : EvX g_p_hidden_told [L3, .int 0, y, w] "NoNumber" := goX_p_hidden_told (by
  unfold k_p_hidden_told_1
  simp [call1 l3]
  unfold k_p_hidden_told_2
  simp [call2 p0]
  unfold k_p_hidden_told_3
  simp [call2X (x_pl h)])
theorem p2 : Ev g_p_check_place [L3, .int 2] .none := ⟨_, rfl⟩
theorem x_h4 {w : D} (h : withinB w 0 1000 = false) : EvX g_p_hidden_told [L3, .int 0, .int 2, w] "NoNumber" := goX_p_hidden_told (by
  unfold k_p_hidden_told_1
  simp [call1 l3]
  unfold k_p_hidden_told_2
  simp [call2 p0]
  unfold k_p_hidden_told_3
  simp [call2 p2]
  unfold k_p_hidden_told_4
  simp [q_MOST_HIGH, call3X (x_num h)])
theorem f_a : Ev g_p_hidden_told [.tuple [.int 0, .int 3, .int 9, .int 1], .int 0, .int 3, .int 2] (.tuple [.str "hill", .int 1]) := ⟨_, rfl⟩
theorem f_b : Ev g_p_hidden_told [.tuple [.int 0, .int 3, .int 9, .int 1], .int 3, .int 0, .int 1] (.tuple [.str "hill", .int 2]) := ⟨_, rfl⟩
theorem f_c : Ev g_p_hidden_told [.tuple [.int 0, .int 3, .int 9, .int 1], .int 0, .int 2, .int 0] (.tuple [.str "seen"]) := ⟨_, rfl⟩
theorem f_d : Ev g_p_hidden_told [.tuple [.int 5, .int 5, .int 5], .int 0, .int 2, .int 0] (.tuple [.str "seen"]) := ⟨_, rfl⟩
theorem chkL {m : ME} {ρ : PD.Env} (h : excOf (m (datE ρ)) = some "NoLine") (k : MS) : sSeq (sIf (bNot (bT (mIsX xnames (fun c => decide (c = ("NoLine" : Str))) (mTold 2 m t_told)))) (sRet (mC (.bool false))) (sPass)) k ρ = k ρ := by
  have hx : ("NoLine" : Str) ∈ xnames := by decide
  rw [seq_eq]
  simp only [r_sIf, r_bNot, r_bT, r_mIsX]
  rw [told_g (.inl rfl) h]
  simp [hx]
theorem true_law (ns : List Int) (hns : ns.length ≤ 63) : ∃ outs, g_law_main [.dat (.list (ns.map PyData.int))] = .ok (.dat (.bool true)) outs := by
  have ok := hand0_ok hns
  generalize hs : PyData.list (ns.map PyData.int) = s
  have eh := e_hand hns
  rw [hs] at eh
  suffices Ev g_law_main [s] (.bool true) from this
  refine go_law_main ?_
  unfold k_law_main_1
  simp [call1O eh]
  unfold k_law_main_2
  obtain ⟨ys, ρ', q, hl, h9, ok9, rfl⟩ := lc_inv k_law_main_2c1 rfl (List.range 4) (fun i => .int (0 + (i : Int))) (fun (_ : Unit) => .bool true) (fun _ ρ => ∃ h : Hnd, Hnd.Ok h ∧ ρ = V_law_main (some (.dat s)) (some (.own (.list (hd h))))) (ρ := V_law_main (some (.dat s)) (some (.own (.list (hd (hand0 ns)))))) (ρ1 := V_law_main (some (.dat s)) (some (.own (.list (hd (hand0 ns)))))) rfl (by simp) (by simp) ⟨_, ok, by simp⟩ (by
    rintro i bs ρ ⟨h, ok', rfl⟩
    obtain ⟨h1, ok1, q1⟩ := e_right ok'
    refine ⟨_, .dat (.bool true), (), _, by simp; rfl, by simp [cP1 q1]; rfl, rfl, by simp, h1, ok1, by simp⟩)
  simp [q]
  unfold k_law_main_3
  obtain ⟨h8, bad, ok8, nb, q8⟩ := e_bad ok9
  obtain ⟨h7, far, ok7, nf, q7⟩ := e_far ok8
  obtain ⟨h6, eye, ok6, ne, q6⟩ := e_noeye ok7
  simp [cP1 q8, cP2 q7, cP1 q6]
  unfold k_law_main_4
  rw [chkL (by simp [call4X (x_h1 nb far far eye)])]
  unfold k_law_main_5
  rw [chkN (by simp [call4X (x_h2 nf (.int 1) eye)])]
  unfold k_law_main_6
  rw [chkN (by simp [call4X (x_h3 nf eye)])]
  unfold k_law_main_7
  rw [chkN (by simp [call4X (x_h4 ne)])]
  unfold k_law_main_8
  rw [chkL (by simp [call5X (x_j1 nb (.int 0) (.int 1) (.int 1) .none)])]
  unfold k_law_main_9
  simp
  unfold k_law_main_10
  simp [call4 f_a, call4 f_b, call4 f_c]
  unfold k_law_main_11
  simp [call4 f_d]
  unfold k_law_main_12
  have rep : rpOk (.list [.tuple [.str "hill", .int 1], .tuple [.str "hill", .int 2], .tuple [.str "seen"], .tuple [.str "seen"]]) = true := by decide
  simp [call2 (is_same rep)]
end LW

open PySem PySem.W PyProof.Rows in
set_option maxRecDepth 100000 in
set_option maxHeartbeats 0 in
theorem PySem.Challenge.cw_landoffice_k34_whole_hills_between_holds : PySem.Challenge.rw_landoffice_k34_whole_hills_between.Holds := by
  w_on; o_law; k_head; (case hw => w_witness2)
  k_fill
  refine PD.walk_lawG (l := PySem.Challenge.rw_landoffice_k34_whole_hills_between) (n := 63) (k := 9) rfl (by decide) rfl ⟨rfl, by decide, by decide⟩ (fun w h Y => PySem.W.km_in_of Y) ?F
  case F =>
    intro w mg fa h Y KX G XX hmg
    have T : LW.Txt (PD.fragOf KX) mg := by
      refine' ⟨PySem.W.mg_none_of KX G ?b_ValueError, PySem.W.mg_none_of KX G ?b_abs, PySem.W.mg_none_of KX G ?b_all, PySem.W.mg_none_of KX G ?b_bool, PySem.W.mg_none_of KX G ?b_enumerate, PySem.W.mg_none_of KX G ?b_int, PySem.W.mg_none_of KX G ?b_isinstance, PySem.W.mg_none_of KX G ?b_len, PySem.W.mg_none_of KX G ?b_list, PySem.W.mg_none_of KX G ?b_max, PySem.W.mg_none_of KX G ?b_min, PySem.W.mg_none_of KX G ?b_range, PySem.W.mg_none_of KX G ?b_repr, PySem.W.mg_none_of KX G ?b_str, PySem.W.mg_none_of KX G ?b_tuple, ?i_MOST_HIGH, ?i_MOST_PLACES⟩
      (case b_ValueError => k_is)
      (case b_abs => k_is)
      (case b_all => k_is)
      (case b_bool => k_is)
      (case b_enumerate => k_is)
      (case b_int => k_is)
      (case b_isinstance => k_is)
      (case b_len => k_is)
      (case b_list => k_is)
      (case b_max => k_is)
      (case b_min => k_is)
      (case b_range => k_is)
      (case b_repr => k_is)
      (case b_str => k_is)
      (case b_tuple => k_is)
      (case i_MOST_HIGH => first | (refine' PD.fits_int KX G ?zz0; (case zz0 => k_is); done) | exact PD.loose_int XX List.mem_cons_self | exact PD.loose_int XX (List.mem_cons_of_mem _ List.mem_cons_self) | exact PD.loose_int XX (List.mem_cons_of_mem _ (List.mem_cons_of_mem _ List.mem_cons_self)))
      (case i_MOST_PLACES => first | (refine' PD.fits_int KX G ?zz1; (case zz1 => k_is); done) | exact PD.loose_int XX List.mem_cons_self | exact PD.loose_int XX (List.mem_cons_of_mem _ List.mem_cons_self) | exact PD.loose_int XX (List.mem_cons_of_mem _ (List.mem_cons_of_mem _ List.mem_cons_self)))
    refine' (have F_l_hand := PD.fun_at (x := "_law_hand") (st := LW.s_l_hand) KX G ?a_l_hand ?l_l_hand ?c_l_hand ?k_l_hand; ?_)
    (case a_l_hand => k_is); (case l_l_hand => k_is); (case c_l_hand => k_is); (case k_l_hand => k_is)
    refine' (have F_l_is := PD.fun_at (x := "_law_is") (st := LW.s_l_is) KX G ?a_l_is ?l_l_is ?c_l_is ?k_l_is; ?_)
    (case a_l_is => k_is); (case l_l_is => k_is); (case c_l_is => k_is); (case k_l_is => k_is)
    refine' (have F_l_draw := PD.fun_at (x := "_law_draw") (st := LW.s_l_draw) KX G ?a_l_draw ?l_l_draw ?c_l_draw ?k_l_draw; ?_)
    (case a_l_draw => k_is); (case l_l_draw => k_is); (case c_l_draw => k_is); (case k_l_draw => k_is)
    refine' (have F_l_some := PD.fun_at (x := "_law_some") (st := LW.s_l_some) KX G ?a_l_some ?l_l_some ?c_l_some ?k_l_some; ?_)
    (case a_l_some => k_is); (case l_l_some => k_is); (case c_l_some => k_is); (case k_l_some => k_is)
    refine' (have F_l_no_line := PD.fun_at (x := "_law_no_line") (st := LW.s_l_no_line) KX G ?a_l_no_line ?l_l_no_line ?c_l_no_line ?k_l_no_line; ?_)
    (case a_l_no_line => k_is); (case l_l_no_line => k_is); (case c_l_no_line => k_is); (case k_l_no_line => k_is)
    refine' (have F_l_no_place := PD.fun_at (x := "_law_no_place") (st := LW.s_l_no_place) KX G ?a_l_no_place ?l_l_no_place ?c_l_no_place ?k_l_no_place; ?_)
    (case a_l_no_place => k_is); (case l_l_no_place => k_is); (case c_l_no_place => k_is); (case k_l_no_place => k_is)
    refine' (have F_l_no_eye := PD.fun_at (x := "_law_no_eye") (st := LW.s_l_no_eye) KX G ?a_l_no_eye ?l_l_no_eye ?c_l_no_eye ?k_l_no_eye; ?_)
    (case a_l_no_eye => k_is); (case l_l_no_eye => k_is); (case c_l_no_eye => k_is); (case k_l_no_eye => k_is)
    refine' (have F_p_is_sized := PD.fun_at (x := "is_sized") (st := LW.s_p_is_sized) KX G ?a_p_is_sized ?l_p_is_sized ?c_p_is_sized ?k_p_is_sized; ?_)
    (case a_p_is_sized => k_is); (case l_p_is_sized => k_is); (case c_p_is_sized => k_is); (case k_p_is_sized => k_is)
    refine' (have F_p_is_integer := PD.fun_at (x := "is_integer") (st := LW.s_p_is_integer) KX G ?a_p_is_integer ?l_p_is_integer ?c_p_is_integer ?k_p_is_integer; ?_)
    (case a_p_is_integer => k_is); (case l_p_is_integer => k_is); (case c_p_is_integer => k_is); (case k_p_is_integer => k_is)
    refine' (have F_p_is_within := PD.fun_at (x := "is_within") (st := LW.s_p_is_within) KX G ?a_p_is_within ?l_p_is_within ?c_p_is_within ?k_p_is_within; ?_)
    (case a_p_is_within => k_is); (case l_p_is_within => k_is); (case c_p_is_within => k_is); (case k_p_is_within => k_is)
    refine' (have F_p_is_line := PD.fun_at (x := "is_line") (st := LW.s_p_is_line) KX G ?a_p_is_line ?l_p_is_line ?c_p_is_line ?k_p_is_line; ?_)
    (case a_p_is_line => k_is); (case l_p_is_line => k_is); (case c_p_is_line => k_is); (case k_p_is_line => k_is)
    refine' (have F_p_check_line := PD.fun_at (x := "check_line") (st := LW.s_p_check_line) KX G ?a_p_check_line ?l_p_check_line ?c_p_check_line ?k_p_check_line; ?_)
    (case a_p_check_line => k_is); (case l_p_check_line => k_is); (case c_p_check_line => k_is); (case k_p_check_line => k_is)
    refine' (have F_p_check_number := PD.fun_at (x := "check_number") (st := LW.s_p_check_number) KX G ?a_p_check_number ?l_p_check_number ?c_p_check_number ?k_p_check_number; ?_)
    (case a_p_check_number => k_is); (case l_p_check_number => k_is); (case c_p_check_number => k_is); (case k_p_check_number => k_is)
    refine' (have F_p_check_place := PD.fun_at (x := "check_place") (st := LW.s_p_check_place) KX G ?a_p_check_place ?l_p_check_place ?c_p_check_place ?k_p_check_place; ?_)
    (case a_p_check_place => k_is); (case l_p_check_place => k_is); (case c_p_check_place => k_is); (case k_p_check_place => k_is)
    refine' (have F_p_hidden_told := PD.fun_at (x := "hidden_told") (st := LW.s_p_hidden_told) KX G ?a_p_hidden_told ?l_p_hidden_told ?c_p_hidden_told ?k_p_hidden_told; ?_)
    (case a_p_hidden_told => k_is); (case l_p_hidden_told => k_is); (case c_p_hidden_told => k_is); (case k_p_hidden_told => k_is)
    refine' (have F_l_error := PD.fun_at (x := "_law_error") (st := LW.s_l_error) KX G ?a_l_error ?l_l_error ?c_l_error ?k_l_error; ?_)
    (case a_l_error => k_is); (case l_l_error => k_is); (case c_l_error => k_is); (case k_l_error => k_is)
    refine' (have F_l_line := PD.fun_at (x := "_law_line") (st := LW.s_l_line) KX G ?a_l_line ?l_l_line ?c_l_line ?k_l_line; ?_)
    (case a_l_line => k_is); (case l_l_line => k_is); (case c_l_line => k_is); (case k_l_line => k_is)
    refine' (have F_l_eye := PD.fun_at (x := "_law_eye") (st := LW.s_l_eye) KX G ?a_l_eye ?l_l_eye ?c_l_eye ?k_l_eye; ?_)
    (case a_l_eye => k_is); (case l_l_eye => k_is); (case c_l_eye => k_is); (case k_l_eye => k_is)
    refine' (have F_l_hills := PD.fun_at (x := "_law_hills") (st := LW.s_l_hills) KX G ?a_l_hills ?l_l_hills ?c_l_hills ?k_l_hills; ?_)
    (case a_l_hills => k_is); (case l_l_hills => k_is); (case c_l_hills => k_is); (case k_l_hills => k_is)
    refine' (have F_l_deep := PD.fun_at (x := "_law_deep") (st := LW.s_l_deep) KX G ?a_l_deep ?l_l_deep ?c_l_deep ?k_l_deep; ?_)
    (case a_l_deep => k_is); (case l_l_deep => k_is); (case c_l_deep => k_is); (case k_l_deep => k_is)
    refine' (have F_p_raw_sees := PD.fun_at (x := "raw_sees") (st := LW.s_p_raw_sees) KX G ?a_p_raw_sees ?l_p_raw_sees ?c_p_raw_sees ?k_p_raw_sees; ?_)
    (case a_p_raw_sees => k_is); (case l_p_raw_sees => k_is); (case c_p_raw_sees => k_is); (case k_p_raw_sees => k_is)
    refine' (have F_p_is_hidden_told := PD.fun_at (x := "is_hidden_told") (st := LW.s_p_is_hidden_told) KX G ?a_p_is_hidden_told ?l_p_is_hidden_told ?c_p_is_hidden_told ?k_p_is_hidden_told; ?_)
    (case a_p_is_hidden_told => k_is); (case l_p_is_hidden_told => k_is); (case c_p_is_hidden_told => k_is); (case k_p_is_hidden_told => k_is)
    refine' (have F_p_sees := PD.fun_at (x := "sees") (st := LW.s_p_sees) KX G ?a_p_sees ?l_p_sees ?c_p_sees ?k_p_sees; ?_)
    (case a_p_sees => k_is); (case l_p_sees => k_is); (case c_p_sees => k_is); (case k_p_sees => k_is)
    refine' (have F_l_right := PD.fun_at (x := "_law_right") (st := LW.s_l_right) KX G ?a_l_right ?l_l_right ?c_l_right ?k_l_right; ?_)
    (case a_l_right => k_is); (case l_l_right => k_is); (case c_l_right => k_is); (case k_l_right => k_is)
    refine' (have F_law_main := And.intro (PD.funC_at (P := ?P_law_main) (x := "law") (st := LW.s_law_main) KX G ?a_law_main ?l_law_main ?c_law_main ?k_law_main ?d_law_main ?n_law_main) (km_tabs_of Y ?P_law_main ?m_law_main); ?_)
    (case a_law_main => k_is); (case l_law_main => k_is); (case c_law_main => k_is); (case k_law_main => k_is)
    first
      | ((case m_law_main => exact List.mem_cons_self); (case d_law_main => first | rfl | decide +kernel); (case n_law_main => first | rfl | decide +kernel))
    refine' LW.law_at KX G hmg T F_l_hand F_l_is F_l_draw F_l_some F_l_no_line F_l_no_place F_l_no_eye F_p_is_sized F_p_is_integer F_p_is_within F_p_is_line F_p_check_line F_p_check_number F_p_check_place F_p_hidden_told F_l_error F_l_line F_l_eye F_l_hills F_l_deep F_p_raw_sees F_p_is_hidden_told F_p_sees F_l_right F_law_main.1 F_law_main.2   ?aL ?tI (LW.ini_at T ?il ?ic ?ik ?iv) (PD.errF_mk ?eNoLine_aC ?eNoLine_xL ?eNoLine_rv ?eNoLine_sa ?eNoLine_eC ?eNoLine_tC ?eNoLine_kC ?eNoLine_iC ?eNoLine_ga ?eNoLine_gg ?eNoLine_hd ?eNoLine_hc ?eNoLine_hn ?eNoLine_ht ?eNoLine_hm ?eNoLine_eL ?eNoLine_dL ?eNoLine_tL ?eNoLine_sL ?eNoLine_ve) (PD.errF_mk ?eNoNumber_aC ?eNoNumber_xL ?eNoNumber_rv ?eNoNumber_sa ?eNoNumber_eC ?eNoNumber_tC ?eNoNumber_kC ?eNoNumber_iC ?eNoNumber_ga ?eNoNumber_gg ?eNoNumber_hd ?eNoNumber_hc ?eNoNumber_hn ?eNoNumber_ht ?eNoNumber_hm ?eNoNumber_eL ?eNoNumber_dL ?eNoNumber_tL ?eNoNumber_sL ?eNoNumber_ve) ?p_NoLine_NoLine ?p_NoLine_NoNumber ?p_NoNumber_NoLine ?p_NoNumber_NoNumber ?nl LW.true_law
    (case aL => k_is)
    (case eNoLine_aC => first | k_is | rfl)
    (case eNoLine_xL => first | k_is | rfl)
    (case eNoLine_rv => first | rfl | decide +kernel)
    (case eNoLine_sa => first | k_is | rfl)
    (case eNoLine_eC => first | k_is | rfl)
    (case eNoLine_tC => first | k_is | rfl)
    (case eNoLine_kC => first | k_is | rfl)
    (case eNoLine_iC => first | k_is | rfl)
    (case eNoLine_ga => first | k_is | rfl)
    (case eNoLine_gg => first | k_is | rfl)
    (case eNoLine_hd => first | k_is | rfl)
    (case eNoLine_hc => first | k_is | rfl)
    (case eNoLine_hn => first | k_is | rfl)
    (case eNoLine_ht => first | k_is | rfl)
    (case eNoLine_hm => first | k_is | rfl)
    (case eNoLine_eL => first | k_is | rfl)
    (case eNoLine_dL => first | k_is | rfl)
    (case eNoLine_tL => first | k_is | rfl)
    (case eNoLine_sL => first | k_is | rfl)
    (case eNoLine_ve => first | k_is | rfl)
    (case eNoNumber_aC => first | k_is | rfl)
    (case eNoNumber_xL => first | k_is | rfl)
    (case eNoNumber_rv => first | rfl | decide +kernel)
    (case eNoNumber_sa => first | k_is | rfl)
    (case eNoNumber_eC => first | k_is | rfl)
    (case eNoNumber_tC => first | k_is | rfl)
    (case eNoNumber_kC => first | k_is | rfl)
    (case eNoNumber_iC => first | k_is | rfl)
    (case eNoNumber_ga => first | k_is | rfl)
    (case eNoNumber_gg => first | k_is | rfl)
    (case eNoNumber_hd => first | k_is | rfl)
    (case eNoNumber_hc => first | k_is | rfl)
    (case eNoNumber_hn => first | k_is | rfl)
    (case eNoNumber_ht => first | k_is | rfl)
    (case eNoNumber_hm => first | k_is | rfl)
    (case eNoNumber_eL => first | k_is | rfl)
    (case eNoNumber_dL => first | k_is | rfl)
    (case eNoNumber_tL => first | k_is | rfl)
    (case eNoNumber_sL => first | k_is | rfl)
    (case eNoNumber_ve => first | k_is | rfl)
    (case tI => k_is)
    (case il => k_is)
    (case ic => k_is)
    (case ik => k_is)
    (case iv => k_is)
    (case p_NoLine_NoLine => first | k_is | rfl)
    (case p_NoLine_NoNumber => first | k_is | rfl)
    (case p_NoNumber_NoLine => first | k_is | rfl)
    (case p_NoNumber_NoNumber => first | k_is | rfl)
    (case nl => first | k_is | rfl | decide +kernel)

