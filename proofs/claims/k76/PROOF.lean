import PyProof.Rows.All
import Wide.All
import OpenK.AllK
import Wide.FinOn
import HandS.ForMost
import HandS.Exc
import HandS.Nested
import HandS.CallSlots
import HandS.Defaults
import HandS.Wide
import HandS.TupAny
import HandS.TupMul
import HandS.Deep
import HandS.Flow
import HandS.Star
import HandS.IsInst
import HandS.SortInts
import HandS.TupLen
import HandS.Conv
import HandS.WordsDict
import HandS.Text
import HandS.ExcOwn
import HandS.Iter
import HandS.Walk
import KE.GoesEnum
import KE.GoesMore
import HandS.Style
import HandS.Small
import HandS.List
import HandS.Strs
import HandS.Dict
import KE.KDictZip
import HandS.Head0
import HandS.Head1
import HandS.Head2
import HandS.HeadEnd
import HandS.HeadHook1
import HandS.HeadHook2
import PySem.Challenge.RW_lookturns_k76_whole_simple_rules
set_option Elab.async false
set_option linter.all false
set_option maxRecDepth 100000
set_option maxHeartbeats 1000000
set_option autoImplicit false
namespace Lk
open PySem PySem.Spec PyProof.Rows L2 NdefX
/-! ### plain data -/
inductive D where
  | non | bl (b : Bool) | int (i : Int) | str (x : Str)
  | tup (xs : List D) | lst (xs : List D) | dct (kvs : List (D × D))
  | obj (k : Nat) | clo (j : Nat) | klst (xs : List D) | ktup (xs : List D)
deriving Inhabited
def kD : Key → D
  | .inl i => .int i
  | .inr x => .str x
def kT (ks : List Key) : D := .tup (ks.map kD)
/-- a text as there may be one -/
def okS (x : Str) : Prop := x.length ≤ sizeLine ∧ PyData.strOk x = true
def kOk : Key → Prop
  | .inl _ => True
  | .inr x => okS x
def ksOk (ks : List Key) : Prop := ks.length ≤ sizeLine ∧ ∀ k ∈ ks, kOk k
/-- the frozen containers; where the shared objects stand -/
structure Cg where
  F : Addr → Prop
  ρ : List Addr
def Cg.add (c : Cg) (p : Addr) : Cg := { c with F := fun a => c.F a ∨ a = p }
/-- a list that is handed in from outside: it stands in the module's part -/
def KL (K : PySem.W.Frag) (a : Addr) (xs : List V) : Prop :=
  ∃ (o : Obj) (its : Array Value) (n : Nat), K.lookup a = some o ∧ o.cls = .type "list" ∧ o.dict = none ∧ o.data = .seq its n ∧ its.size ≤ sizeLine ∧ Vals xs its.toList
def KTp (K : PySem.W.Frag) (a : Addr) (xs : List V) : Prop :=
  ∃ (o : Obj) (its : Array Value) (n : Nat), K.lookup a = some o ∧ o.cls = .type "tuple" ∧ o.data = .seq its n ∧ its.size ≤ sizeLine ∧ Vals xs its.toList
/-! ### how data lies in the heap -/
mutual
inductive RV (K : PySem.W.Frag) (c : Cg) (H : Hp) : D → V → Prop
  | non : RV K c H .non .non
  | bl (b : Bool) : RV K c H (.bl b) (.bl b)
  | int (i : Int) : RV K c H (.int i) (.int i)
  | str {x : Str} : okS x → RV K c H (.str x) (.str x)
  | tup {p : Addr} {xs : List V} {ds : List D} : H p = some (.tup xs) → xs.length ≤ sizeLine → RVs K c H ds xs → RV K c H (.tup ds) (.ref p)
  | lst {p : Addr} {xs : List V} {ds : List D} : c.F p → Rd H p (.lst xs) → xs.length ≤ sizeLine → RVs K c H ds xs → RV K c H (.lst ds) (.ref p)
  | dK {p : Addr} {o : Obj} {es : List (Key × V)} {kvs : List (D × D)} : c.F p → H p = some (.frz o (.dK es)) → es.length ≤ sizeLine → RKs K c H kvs es → RV K c H (.dct kvs) (.ref p)
  | dT {p : Addr} {o : Obj} {es : List (List Key × V)} {kvs : List (D × D)} : c.F p → H p = some (.frz o (.dT es)) → es.length ≤ sizeLine → RTs K c H kvs es → RV K c H (.dct kvs) (.ref p)
  | obj {k : Nat} {p : Addr} : c.ρ[k]? = some p → RV K c H (.obj k) (.ref p)
  | klF {p : Addr} {xs : List V} {ds : List D} : c.F p → Rd H p (.lst xs) → xs.length ≤ sizeLine → RVs K c H ds xs → RV K c H (.klst ds) (.ref p)
  | ktK {p : Addr} {xs : List V} {ds : List D} : KTp K p xs → xs.length ≤ sizeLine → RVs K c H ds xs → RV K c H (.ktup ds) (.ref p)
  | klK {p : Addr} {xs : List V} {ds : List D} : KL K p xs → xs.length ≤ sizeLine → RVs K c H ds xs → RV K c H (.klst ds) (.ref p)
inductive RVs (K : PySem.W.Frag) (c : Cg) (H : Hp) : List D → List V → Prop
  | nil : RVs K c H [] []
  | cons {d : D} {v : V} {ds : List D} {vs : List V} : RV K c H d v → RVs K c H ds vs → RVs K c H (d :: ds) (v :: vs)
inductive RKs (K : PySem.W.Frag) (c : Cg) (H : Hp) : List (D × D) → List (Key × V) → Prop
  | nil : RKs K c H [] []
  | cons {k : Key} {d : D} {v : V} {ds : List (D × D)} {vs : List (Key × V)} : kOk k → RV K c H d v → RKs K c H ds vs → RKs K c H ((kD k, d) :: ds) ((k, v) :: vs)
inductive RTs (K : PySem.W.Frag) (c : Cg) (H : Hp) : List (D × D) → List (List Key × V) → Prop
  | nil : RTs K c H [] []
  | cons {k : List Key} {d : D} {v : V} {ds : List (D × D)} {vs : List (List Key × V)} : ksOk k → RV K c H d v → RTs K c H ds vs → RTs K c H ((kT k, d) :: ds) ((k, v) :: vs)
end
section
variable {K : PySem.W.Frag} {c c' : Cg} {H H' : Hp}
/-- what data leans on is kept -/
structure Keeps (c : Cg) (H : Hp) (c' : Cg) (H' : Hp) : Prop where
  F : ∀ a, c.F a → c'.F a
  ρ : ∀ (k : Nat) p, c.ρ[k]? = some p → c'.ρ[k]? = some p
  tup : ∀ a xs, H a = some (.tup xs) → H' a = some (.tup xs)
  lst : ∀ a xs, c.F a → Rd H a (.lst xs) → Rd H' a (.lst xs)
  frz : ∀ a o u, c.F a → H a = some (.frz o u) → H' a = some (.frz o u)
theorem Keeps.refl : Keeps c H c H := ⟨fun _ h => h, fun _ _ h => h, fun _ _ h => h, fun _ _ _ h => h, fun _ _ _ _ h => h⟩
theorem Keeps.trans {c'' : Cg} {H'' : Hp} (x : Keeps c H c' H') (y : Keeps c' H' c'' H'') : Keeps c H c'' H'' :=
  ⟨fun a h => y.F a (x.F a h), fun k p h => y.ρ k p (x.ρ k p h), fun a xs h => y.tup a xs (x.tup a xs h), fun a xs f h => y.lst a xs (x.F a f) (x.lst a xs f h),
   fun a o u f h => y.frz a o u (x.F a f) (x.frz a o u f h)⟩
mutual
theorem RV.keep (k : Keeps c H c' H') : ∀ {d : D} {v : V}, RV K c H d v → RV K c' H' d v
  | _, _, .non => .non
  | _, _, .bl b => .bl b
  | _, _, .int i => .int i
  | _, _, .str h => .str h
  | _, _, .tup h z r => .tup (k.tup _ _ h) z (RVs.keep k r)
  | _, _,   .lst f h z r => .lst (k.F _ f) (k.lst _ _ f h) z (RVs.keep k r)
  | _, _, .dK f h z r => .dK (k.F _ f) (k.frz _ _ _ f h) z (RKs.keep k r)
  | _, _, .dT f h z r => .dT (k.F _ f) (k.frz _ _ _ f h) z (RTs.keep k r)
  | _, _, .obj h => .obj (k.ρ _ _ h)
  | _, _, .klF f h z r => .klF (k.F _ f) (k.lst _ _ f h) z (RVs.keep k r)
  | _, _, .klK h z r => .klK h z (RVs.keep k r)
  | _, _, .ktK h z r => .ktK h z (RVs.keep k r)
theorem RVs.keep (k : Keeps c H c' H') : ∀ {ds : List D} {vs : List V}, RVs K c H ds vs → RVs K c' H' ds vs
  | _, _, .nil => .nil
  | _, _, .cons h r => .cons (RV.keep k h) (RVs.keep k r)
theorem RKs.keep (k : Keeps c H c' H') : ∀ {ds : List (D × D)} {vs : List (Key × V)}, RKs K c H ds vs → RKs K c' H' ds vs
  | _, _, .nil => .nil
  | _, _, .cons o h r => .cons o (RV.keep k h) (RKs.keep k r)
theorem RTs.keep (k : Keeps c H c' H') : ∀ {ds : List (D × D)} {vs : List (List Key × V)}, RTs K c H ds vs → RTs K c' H' ds vs
  | _, _, .nil => .nil
  | _, _, .cons o h r => .cons o (RV.keep k h) (RTs.keep k r)
end
theorem RVs.length : ∀ {ds : List D} {vs : List V}, RVs K c H ds vs → ds.length = vs.length
  | _, _, .nil => rfl
  | _, _, .cons _ r => congrArg (· + 1) (RVs.length r)
theorem RKs.length : ∀ {ds : List (D × D)} {vs : List (Key × V)}, RKs K c H ds vs → ds.length = vs.length
  | _, _, .nil => rfl
  | _, _, .cons _ _ r => congrArg (· + 1) (RKs.length r)
theorem RTs.length : ∀ {ds : List (D × D)} {vs : List (List Key × V)}, RTs K c H ds vs → ds.length = vs.length
  | _, _, .nil => rfl
  | _, _, .cons _ _ r => congrArg (· + 1) (RTs.length r)
theorem RVs.append : ∀ {ds es : List D} {vs us : List V}, RVs K c H ds vs → RVs K c H es us → RVs K c H (ds ++ es) (vs ++ us)
  | _, _, _, _, .nil, s => s
  | _, _, _, _, .cons h r, s => .cons h (RVs.append r s)
theorem RVs.get : ∀ {ds : List D} {vs : List V} {i : Nat} {d : D}, RVs K c H ds vs → ds[i]? = some d → ∃ v, vs[i]? = some v ∧ RV K c H d v
  | _, _, _, _, .nil, e => by simp at e
  | _, _, 0, _, .cons h _, e => by simp at e; subst e; exact ⟨_, rfl, h⟩
  | _, _, i + 1, _, .cons _ r, e => RVs.get (i := i) r (by simpa using e)
theorem RVs.getV : ∀ {ds : List D} {vs : List V} {i : Nat} {v : V}, RVs K c H ds vs → vs[i]? = some v → ∃ d, ds[i]? = some d ∧ RV K c H d v
  | _, _, _, _, .nil, e => by simp at e
  | _, _, 0, _, .cons h _, e => by simp at e; subst e; exact ⟨_, rfl, h⟩
  | _, _, i + 1, _, .cons _ r, e => RVs.getV (i := i) r (by simpa using e)
theorem RVs.take : ∀ {ds : List D} {vs : List V} (n : Nat), RVs K c H ds vs → RVs K c H (ds.take n) (vs.take n)
  | _, _, 0, _ => .nil
  | _, _, _ + 1, .nil => .nil
  | _, _, n + 1, .cons h r => .cons h (RVs.take n r)
theorem RVs.drop : ∀ {ds : List D} {vs : List V} (n : Nat), RVs K c H ds vs → RVs K c H (ds.drop n) (vs.drop n)
  | _, _, 0, r => r
  | _, _, _ + 1, .nil => .nil
  | _, _, n + 1, .cons _ r => RVs.drop n r
theorem RVs.set {d : D} {v : V} (h : RV K c H d v) : ∀ {ds : List D} {vs : List V} (n : Nat), RVs K c H ds vs → RVs K c H (ds.set n d) (vs.set n v)
  | _, _, _, .nil => .nil
  | _, _, 0, .cons _ r => .cons h r
  | _, _, n + 1, .cons g r => .cons g (RVs.set h n r)
theorem RVs.reverse : ∀ {ds : List D} {vs : List V}, RVs K c H ds vs → RVs K c H ds.reverse vs.reverse
  | _, _, .nil => .nil
  | _, _, .cons h r => by
    rw [List.reverse_cons, List.reverse_cons]
    exact (RVs.reverse r).append (.cons h .nil)
theorem RVs.splitV : ∀ {ds es : List D} {vs : List V}, RVs K c H (ds ++ es) vs → ∃ v1 v2, vs = v1 ++ v2 ∧ RVs K c H ds v1 ∧ RVs K c H es v2
  | [], _, vs, h => ⟨[], vs, rfl, .nil, h⟩
  | _ :: _, _, _, .cons h r => by
    obtain ⟨v1, v2, e, h1, h2⟩ := RVs.splitV r
    exact ⟨_ :: v1, v2, by rw [e]; rfl, .cons h h1, h2⟩
/-- all is kept; new containers are new -/
structure ExtP (c : Cg) (H : Hp) (c' : Cg) (H' : Hp) : Prop where
  F : ∀ a, c.F a → c'.F a
  Fn : ∀ a, c'.F a → c.F a ∨ (H a = none ∧ H' a ≠ none)
  ρ : c'.ρ = c.ρ
  keep : ∀ a o, H a = some o → H' a = some o
theorem ExtP.refl : ExtP c H c H := ⟨fun _ h => h, fun _ h => .inl h, rfl, fun _ _ h => h⟩
theorem ExtP.noneOf (x : ExtP c H c' H') {a : Addr} (h : H' a = none) : H a = none := by
  cases e : H a with
  | none => rfl
  | some o => rw [x.keep a o e] at h; cases h
theorem ExtP.trans {c'' : Cg} {H'' : Hp} (x : ExtP c H c' H') (y : ExtP c' H' c'' H'') : ExtP c H c'' H'' :=
  ⟨fun a h => y.F a (x.F a h), fun a h => by
    rcases y.Fn a h with h | ⟨h, h'⟩
    · rcases x.Fn a h with h | ⟨h, h'⟩
      · exact .inl h
      · exact .inr ⟨h, fun z => h' (y.noneOf z)⟩
    · exact .inr ⟨x.noneOf h, h'⟩, y.ρ.trans x.ρ, fun a o h => y.keep a o (x.keep a o h)⟩
theorem ExtP.rd (x : ExtP c H c' H') {a : Addr} {o : HO} (h : Rd H a o) : Rd H' a o := by
  rcases h with h | ⟨ob, h⟩
  · exact .inl (x.keep _ _ h)
  · exact .inr ⟨ob, x.keep _ _ h⟩
theorem ExtP.keeps (x : ExtP c H c' H') : Keeps c H c' H' :=
  ⟨x.F, fun k p h => by rw [x.ρ]; exact h, fun _ _ h => x.keep _ _ h, fun _ _ _ h => x.rd h, fun _ _ _ _ h => x.keep _ _ h⟩
theorem ExtP.new {p : Addr} {o : HO} (h : H p = none) : ExtP c H c (upd H p o) :=
  ⟨fun _ h => h, fun _ h => .inl h, rfl, fun a u e => by rw [upd_ne (ne_of_none e h)]; exact e⟩
theorem ExtP.newF {p : Addr} {o : HO} (h : H p = none) : ExtP c H (c.add p) (upd H p o) :=
  ⟨fun _ h => .inl h, fun a q => by
    rcases q with q | q
    · exact .inl q
    · exact .inr ⟨by rw [q]; exact h, by rw [q, upd_same]; exact fun z => by cases z⟩, rfl, fun a u e => by rw [upd_ne (ne_of_none e h)]; exact e⟩
end
/-! ### the shared objects, the slots -/
/-- what stands in a shared object, or in a container that one name alone holds -/
inductive Ob where
  | lst (xs : List D) | dct (kvs : List (D × D)) | ins (cl : Str) (fs : List (Str × D))
abbrev Sto := List Ob
/-- a result -/
structure Exc where
  cls : Str
  fld : Option (Str × D)
inductive R (α : Type) where
  | ok (a : α) (S : Sto) | er (x : Exc) (S : Sto)
/-- what a function means -/
abbrev Sem := List D → Sto → Option (R D)
/-- a slot of a frame: data; a container that this name alone holds; a function that was handed in -/
inductive Sl where
  | val (d : D) | own (o : Ob) | clo (j : Nat)
structure Ev where
  sl : List (Option Sl)
  κs : List Sem
/-- what is fixed: the program and its module; the tables of code objects -/
structure Bd where
  P : Program
  w : World
  K : PySem.W.Frag
  mg : Str → Option Value
  base : Heap
  T : List NTab
section
variable {B : Bd} {c c' : Cg} {H H' : Hp}
inductive RFs (B : Bd) (c : Cg) (H : Hp) : List (Str × D) → List (Str × V) → Prop
  | nil : RFs B c H [] []
  | cons {x : Str} {d : D} {v : V} {ds : List (Str × D)} {vs : List (Str × V)} : RV B.K c H d v → RFs B c H ds vs → RFs B c H ((x, d) :: ds) ((x, v) :: vs)
theorem RFs.keep (k : Keeps c H c' H') : ∀ {ds : List (Str × D)} {vs : List (Str × V)}, RFs B c H ds vs → RFs B c' H' ds vs
  | _, _, .nil => .nil
  | _, _, .cons h r => .cons (RV.keep k h) (RFs.keep k r)
def ObAt (B : Bd) (c : Cg) (H : Hp) (p : Addr) : Ob → Prop
  | .lst ds => ∃ xs, H p = some (.lst xs) ∧ xs.length ≤ sizeLine ∧ RVs B.K c H ds xs
  | .dct kvs => (∃ es, H p = some (.dK es) ∧ es.length ≤ sizeLine ∧ RKs B.K c H kvs es) ∨ (∃ es, H p = some (.dT es) ∧ es.length ≤ sizeLine ∧ RTs B.K c H kvs es)
  | .ins x fs => ∃ C dx vs, H p = some (.ins C dx vs) ∧ B.mg x = some (.ref C) ∧ RFs B c H fs vs
theorem ObAt.kind {p : Addr} {o : Ob} (h : ObAt B c H p o) : (∃ xs, H p = some (.lst xs)) ∨ (∃ xs, H p = some (.dK xs)) ∨ (∃ xs, H p = some (.dT xs)) ∨ ∃ C dx vs, H p = some (.ins C dx vs) := by
  cases o with
  | lst ds => obtain ⟨xs, e, _⟩ := h; exact .inl ⟨_, e⟩
  | dct kvs =>
    rcases h with ⟨es, e, _⟩ | ⟨es, e, _⟩
    · exact .inr (.inl ⟨_, e⟩)
    · exact .inr (.inr (.inl ⟨_, e⟩))
  | ins x fs => obtain ⟨C, dx, vs, e, _⟩ := h; exact .inr (.inr (.inr ⟨_, _, _, e⟩))
theorem ObAt.some_ {p : Addr} {o : Ob} (h : ObAt B c H p o) : ∃ u, H p = some u := by
  rcases h.kind with ⟨_, e⟩ | ⟨_, e⟩ | ⟨_, e⟩ | ⟨_, _, _, e⟩ <;> exact ⟨_, e⟩
theorem ObAt.noTup {p : Addr} {o : Ob} (h : ObAt B c H p o) {xs : List V} (r : Rd H p (.tup xs)) : False := by
  rcases r with r | ⟨ob, r⟩ <;> rcases h.kind with ⟨_, e⟩ | ⟨_, e⟩ | ⟨_, e⟩ | ⟨_, _, _, e⟩ <;> (rw [r] at e; cases e)
theorem ObAt.noTbl {p : Addr} {o : Ob} (h : ObAt B c H p o) {u : HO} (r : H p = some u) : ∀ ps, u ≠ .tbl ps := by
  intro ps z
  subst z
  rcases h.kind with ⟨_, e⟩ | ⟨_, e⟩ | ⟨_, e⟩ | ⟨_, _, _, e⟩ <;> (rw [r] at e; cases e)
theorem ObAt.keep (k : Keeps c H c' H') {p : Addr} {o : Ob} (e : H' p = H p) (h : ObAt B c H p o) : ObAt B c' H' p o := by
  cases o with
  | lst ds => obtain ⟨xs, q, z, r⟩ := h; exact ⟨xs, e.trans q, z, r.keep k⟩
  | dct kvs =>
    rcases h with ⟨es, q, z, r⟩ | ⟨es, q, z, r⟩
    · exact .inl ⟨es, e.trans q, z, r.keep k⟩
    · exact .inr ⟨es, e.trans q, z, r.keep k⟩
  | ins x fs => obtain ⟨C, dx, vs, q, m, r⟩ := h; exact ⟨C, dx, vs, e.trans q, m, r.keep k⟩
structure StOk (B : Bd) (c : Cg) (S : Sto) (H : Hp) : Prop where
  ff : ∀ a, c.F a → H a ≠ none
  len : S.length = c.ρ.length
  nd : c.ρ.Nodup
  nf : ∀ a ∈ c.ρ, ¬ c.F a
  at_ : ∀ (k : Nat) ob p, S[k]? = some ob → c.ρ[k]? = some p → ObAt B c H p ob
theorem StOk.mem {S : Sto} (s : StOk B c S H) {a : Addr} (h : a ∈ c.ρ) : ∃ ob, ObAt B c H a ob := by
  obtain ⟨k, hk, e⟩ := List.getElem_of_mem h
  have e1 : c.ρ[k]? = some a := by rw [List.getElem?_eq_getElem hk, e]
  have hk2 : k < S.length := by rw [s.len]; exact hk
  exact ⟨S[k], s.at_ k _ a (List.getElem?_eq_getElem hk2) e1⟩
/-- behind code: the shared objects may have changed, there may be more of them, the tables may have grown -/
structure Ext (c : Cg) (H : Hp) (c' : Cg) (H' : Hp) : Prop where
  F : ∀ a, c.F a → c'.F a
  Fn : ∀ a, c'.F a → c.F a ∨ (H a = none ∧ H' a ≠ none)
  ρ : ∀ (k : Nat) p, c.ρ[k]? = some p → c'.ρ[k]? = some p
  ρn : ∀ a ∈ c'.ρ, a ∈ c.ρ ∨ H a = none
  keep : ∀ a o, H a = some o → a ∉ c.ρ → (∀ ps, o ≠ .tbl ps) → H' a = some o
  dom : ∀ a, H' a = none → H a = none
theorem ExtP.ext (x : ExtP c H c' H') : Ext c H c' H' :=
  ⟨x.F, x.Fn, fun k p h => by rw [x.ρ]; exact h, fun a h => by rw [x.ρ] at h; exact .inl h, fun a o h _ _ => x.keep a o h, fun a h => x.noneOf h⟩
theorem Ext.refl : Ext c H c H := ExtP.refl.ext
theorem Ext.trans {c'' : Cg} {H'' : Hp} (x : Ext c H c' H') (y : Ext c' H' c'' H'') : Ext c H c'' H'' where
  F := fun a h => y.F a (x.F a h)
  Fn := fun a h => by
    rcases y.Fn a h with h | ⟨h, h'⟩
    · rcases x.Fn a h with h | ⟨h, h'⟩
      · exact .inl h
      · exact .inr ⟨h, fun z => h' (y.dom a z)⟩
    · exact .inr ⟨x.dom a h, h'⟩
  ρ := fun k p h => y.ρ k p (x.ρ k p h)
  ρn := fun a h => by
    rcases y.ρn a h with h | h
    · exact x.ρn a h
    · exact .inr (x.dom a h)
  keep := fun a o h hr ht => by
    refine y.keep a o (x.keep a o h hr ht) (fun q => ?_) ht
    rcases x.ρn a q with q | q
    · exact hr q
    · rw [h] at q; cases q
  dom := fun a h => x.dom a (y.dom a h)
theorem Ext.keeps {S : Sto} (x : Ext c H c' H') (s : StOk B c S H) : Keeps c H c' H' := by
  have rd : ∀ a o, Rd H a o → (∀ ps, o ≠ .tbl ps) → a ∉ c.ρ → Rd H' a o := fun a o r nt hr => by
    rcases r with r | ⟨ob, r⟩
    · exact .inl (x.keep a _ r hr nt)
    · exact .inr ⟨ob, x.keep a _ r hr fun ps z => by cases z⟩
  refine ⟨x.F, x.ρ, fun a xs r => x.keep a _ r (fun h => ?_) (fun ps z => by cases z), fun a xs f r => rd a _ r (fun ps z => by cases z) fun h => s.nf a h f,
    fun a o u f r => x.keep a _ r (fun h => s.nf a h f) (fun ps z => by cases z)⟩
  obtain ⟨ob, q⟩ := s.mem h
  exact q.noTup (.inl r)
theorem StOk.extP {S : Sto} (s : StOk B c S H) (x : ExtP c H c' H') : StOk B c' S H' := by
  refine ⟨fun a f => ?_, by rw [x.ρ]; exact s.len, by rw [x.ρ]; exact s.nd, fun a h f => ?_, fun k ob p e1 e2 => ?_⟩
  · rcases x.Fn a f with f | ⟨_, f⟩
    · exact fun z => s.ff a f (x.noneOf z)
    · exact f
  · rw [x.ρ] at h
    rcases x.Fn a f with f | ⟨f, _⟩
    · exact s.nf a h f
    · obtain ⟨ob, q⟩ := s.mem h
      obtain ⟨u, e⟩ := q.some_
      rw [f] at e; cases e
  · rw [x.ρ] at e2
    have q := s.at_ k ob p e1 e2
    obtain ⟨u, e⟩ := q.some_
    exact q.keep x.keeps ((x.keep _ _ e).trans e.symm)
/-- a frame's entry -/
structure En where
  c0 : Cg
  H0 : Hp
  κs : List Sem
  vκ : List V
def SlAt (B : Bd) (e : En) (c : Cg) (H : Hp) : Sl → V → Prop
  | .val d, v => RV B.K c H d v
  | .clo j, v => e.vκ[j]? = some v
  | .own o, v => ∃ p, v = .ref p ∧ ¬ c.F p ∧ p ∉ c.ρ ∧ e.H0 p = none ∧ ObAt B c H p o
structure Slots (B : Bd) (e : En) (c : Cg) (H : Hp) (sl : List (Option Sl)) (σ : L2.St) : Prop where
  len : sl.length = σ.length
  at_ : ∀ (i : Nat) s, sl[i]? = some (some s) → ∃ v, σ[i]? = some (some v) ∧ SlAt B e c H s v
  apart : ∀ (i j : Nat) o o' v, sl[i]? = some (some (.own o)) → sl[j]? = some (some (.own o')) → σ[i]? = some (some v) → σ[j]? = some (some v) → i = j
theorem SlAt.ext {e : En} {S : Sto} (s : StOk B c S H) (x : Ext c H c' H') {l : Sl} {v : V} (h : SlAt B e c H l v) : SlAt B e c' H' l v := by
  cases l with
  | val d => exact RV.keep (x.keeps s) h
  | clo j => exact h
  | own o =>
    obtain ⟨p, rfl, f, r, n, q⟩ := h
    obtain ⟨u, e⟩ := q.some_
    refine ⟨p, rfl, fun z => ?_, fun z => ?_, n, q.keep (x.keeps s) ((x.keep _ _ e r (q.noTbl e)).trans e.symm)⟩
    · rcases x.Fn p z with z | ⟨z, _⟩
      · exact f z
      · rw [e] at z; cases z
    · rcases x.ρn p z with z | z
      · exact r z
      · rw [e] at z; cases z
theorem Slots.ext {e : En} {S : Sto} {sl : List (Option Sl)} {σ : L2.St} (s : StOk B c S H) (x : Ext c H c' H') (h : Slots B e c H sl σ) : Slots B e c' H' sl σ :=
  ⟨h.len, fun i s' q => by
    obtain ⟨v, a, b⟩ := h.at_ i s' q
    exact ⟨v, a, b.ext s x⟩, h.apart⟩
end
end Lk
set_option Elab.async false
set_option linter.all false
set_option maxRecDepth 100000
set_option maxHeartbeats 1000000
set_option autoImplicit false
namespace Lk
open PySem PySem.Spec PyProof.Rows L2 NdefX
/-! ### exceptions, functions that are handed in, a frame's state -/
def ClsV (B : Bd) (x : Str) (cls : Value) : Prop := B.mg x = some cls ∨ (B.mg x = none ∧ bootBuiltins x = some cls)
def RX (B : Bd) (c : Cg) (H : Hp) (x : Exc) (cls : Value) (dd : Option Addr) : Prop :=
  ClsV B x.cls cls ∧ match x.fld with
    | none => True
    | some (f, d) => ∃ a v, dd = some a ∧ H a = some (.xd [(f, v)]) ∧ RV B.K c H d v
/-- behind a call -/
def PF (B : Bd) (c : Cg) (H : Hp) (r : Option (R D)) (Q : VK) (E : XK) : Prop :=
  match r with
  | none => False
  | some (.ok d S') => ∀ c' H' v, Ext c H c' H' → StOk B c' S' H' → TabsN B.T H' → RV B.K c' H' d v → Q v H'
  | some (.er x S') => ∀ c' H' cls dd, Ext c H c' H' → StOk B c' S' H' → TabsN B.T H' → RX B c' H' x cls dd → E cls dd H'
def SoftKeep (c0 : Cg) (H0 H : Hp) : Prop := ∀ a o, H0 a = some o → a ∉ c0.ρ → (∀ ps, o ≠ .tbl ps) → H a = some o
def spK (B : Bd) (κ : Sem) (c0 : Cg) (vs : List V) (H : Hp) (Q : VK) (E : XK) : Prop :=
  ∃ c S ds, (∀ a, c0.F a → c.F a) ∧ (∀ (k : Nat) p, c0.ρ[k]? = some p → c.ρ[k]? = some p) ∧ StOk B c S H ∧ TabsN B.T H ∧ RVs B.K c H ds vs ∧ PF B c H (κ ds S) Q E
structure CloOk (B : Bd) (l : Nat) (κ : Sem) (v : V) (c0 : Cg) (H0 : Hp) : Prop where
  run : ∃ f, v = .ref f ∧ ∀ (A : Around) (outer : List Env) (s : Shared) (H : Hp) (us : List Value) (vs : List V) (Q : VK) (E : XK), Room l A → Env0 B.P B.w B.K B.mg B.base A outer s H →
    SoftKeep c0 H0 H → Vals vs us → spK B κ c0 vs H Q E → codeAny (model B.P B.w) A (.call (.ref f) ⟨us, []⟩) (CR (L2.CX B.P B.w) outer B.P B.w H s Q E) s
structure KsOk (B : Bd) (κs : List Sem) (vκ : List V) (c0 : Cg) (H0 : Hp) : Prop where
  len : κs.length = vκ.length
  ok : ∀ (j : Nat) κ v, κs[j]? = some κ → vκ[j]? = some v → ∃ l, CloOk B l κ v c0 H0
structure Rp (B : Bd) (e : En) (c : Cg) (S : Sto) (sl : List (Option Sl)) (σ : L2.St) (H : Hp) : Prop where
  st : StOk B c S H
  tb : TabsN B.T H
  ext : Ext e.c0 e.H0 c H
  sl : Slots B e c H sl σ
  ks : KsOk B e.κs e.vκ e.c0 e.H0
theorem tabs_extP {T : List NTab} {c c' : Cg} {H H' : Hp} (x : ExtP c H c' H') (t : TabsN T H) : TabsN T H' := t.ext x.keep
theorem Rp.to {B : Bd} {e : En} {c c' : Cg} {S S' : Sto} {sl : List (Option Sl)} {σ : L2.St} {H H' : Hp} (r : Rp B e c S sl σ H) (x : Ext c H c' H') (st : StOk B c' S' H') (tb : TabsN B.T H') : Rp B e c' S' sl σ H' :=
  ⟨st, tb, r.ext.trans x, r.sl.ext r.st x, r.ks⟩
theorem Rp.toP {B : Bd} {e : En} {c c' : Cg} {S : Sto} {sl : List (Option Sl)} {σ : L2.St} {H H' : Hp} (r : Rp B e c S sl σ H) (x : ExtP c H c' H') : Rp B e c' S sl σ H' :=
  r.to x.ext (r.st.extP x) (tabs_extP x r.tb)
/-! ### meanings -/
abbrev M (α : Type) := Ev → Sto → Option (R α)
def mRet {α : Type} (a : α) : M α := fun _ S => some (.ok a S)
def mBind {α β : Type} (m : M α) (f : α → M β) : M β := fun v S =>
  match m v S with
  | none => none
  | some (.er x S') => some (.er x S')
  | some (.ok a S') => f a v S'
/-- a pure step, that may have no meaning -/
def mOpt {α : Type} (o : Option α) : M α := fun _ S => match o with
  | none => none
  | some a => some (.ok a S)
def PM {α β : Type} (B : Bd) (W : WX) (rel : Cg → Hp → α → β → Prop) (e : En) (sl : List (Option Sl)) (σ : L2.St) (c : Cg) (H : Hp) (r : Option (R α)) (Q : β → Hp → Prop) : Prop :=
  match r with
  | none => False
  | some (.ok a S') => ∀ c' H' b, Rp B e c' S' sl σ H' → Ext c H c' H' → rel c' H' a b → Q b H'
  | some (.er x S') => ∀ c' H' cls dd, Rp B e c' S' sl σ H' → Ext c H c' H' → RX B c' H' x cls dd → W cls dd σ H'
/-- the reading of a meaning -/
def TM {α β : Type} (B : Bd) (W : WX) (rel : Cg → Hp → α → β → Prop) (m : M α) : L2.St → Hp → (β → Hp → Prop) → Prop := fun σ H Q =>
  ∃ e c S sl, Rp B e c S sl σ H ∧ PM B W rel e sl σ c H (m ⟨sl, e.κs⟩ S) Q
abbrev bo (X : Cx) (T : List NTab) : Bd := ⟨X.prog, X.w, X.K, X.mg, X.base, T⟩
theorem PM.bind {α β γ δ : Type} {B : Bd} {W : WX} {r1 : Cg → Hp → α → β → Prop} {r2 : Cg → Hp → γ → δ → Prop} {m : M α} {f : α → M γ} {e : En} {sl : List (Option Sl)} {σ : L2.St} {c : Cg} {H : Hp} {v : Ev} {S : Sto} {Q : δ → Hp → Prop}
    (p : PM B W r2 e sl σ c H (mBind m f v S) Q) : PM B W r1 e sl σ c H (m v S) fun b H1 => ∃ c1 S1 a, Rp B e c1 S1 sl σ H1 ∧ Ext c H c1 H1 ∧ r1 c1 H1 a b ∧ PM B W r2 e sl σ c1 H1 (f a v S1) Q := by
  unfold mBind at p
  cases q : m v S with
  | none => rw [q] at p; exact p
  | some r =>
    rw [q] at p
    cases r with
    | er x S' => exact p
    | ok a S' =>
      intro c' H' b R1 x1 rb
      refine ⟨c', S', a, R1, x1, rb, ?_⟩
      have p' : PM B W r2 e sl σ c H (f a v S') Q := p
      cases q2 : f a v S' with
      | none => rw [q2] at p'; exact p'
      | some r =>
        rw [q2] at p'
        cases r with
        | ok a2 S2 => exact fun c2 H2 b2 R2 x2 rb2 => p' c2 H2 b2 R2 (x1.trans x2) rb2
        | er x S2 => exact fun c2 H2 cls dd R2 x2 rx => p' c2 H2 cls dd R2 (x1.trans x2) rx
theorem PM.imp {α β : Type} {B : Bd} {W : WX} {r1 : Cg → Hp → α → β → Prop} {e : En} {sl : List (Option Sl)} {σ : L2.St} {c : Cg} {H : Hp} {r : Option (R α)} {Q Q' : β → Hp → Prop}
    (p : PM B W r1 e sl σ c H r Q) (h : ∀ b H', Q b H' → Q' b H') : PM B W r1 e sl σ c H r Q' := by
  cases r with
  | none => exact p
  | some r =>
    cases r with
    | ok a S' => exact fun c' H' b R1 x1 rb => h b H' (p c' H' b R1 x1 rb)
    | er x S' => exact p
/-- from a meaning to its first part: what is known behind it -/
theorem TM.bind {α β γ δ : Type} {B : Bd} {W : WX} {r1 : Cg → Hp → α → β → Prop} {r2 : Cg → Hp → γ → δ → Prop} {m : M α} {f : α → M γ} {σ : L2.St} {H : Hp} {Q : δ → Hp → Prop}
    (h : TM B W r2 (mBind m f) σ H Q) : TM B W r1 m σ H fun b H1 => ∃ e c S sl a, Rp B e c S sl σ H1 ∧ r1 c H1 a b ∧ PM B W r2 e sl σ c H1 (f a ⟨sl, e.κs⟩ S) Q := by
  obtain ⟨e, c, S, sl, R0, p⟩ := h
  exact ⟨e, c, S, sl, R0, p.bind.imp fun b H' ⟨c1, S1, a, R1, _, ra, p1⟩ => ⟨e, c1, S1, sl, a, R1, ra, p1⟩⟩
theorem TM.bind2 {α β α' β' γ δ : Type} {B : Bd} {W : WX} {r1 : Cg → Hp → α → β → Prop} {r1' : Cg → Hp → α' → β' → Prop} {r2 : Cg → Hp → γ → δ → Prop} {m : M α} {m' : M α'} {f : α → α' → M γ} {σ : L2.St} {H : Hp} {Q : δ → Hp → Prop}
    (mono : ∀ {c H c' H' a b}, Keeps c H c' H' → r1 c H a b → r1 c' H' a b)
    (h : TM B W r2 (mBind m fun a => mBind m' fun a' => f a a') σ H Q) : TM B W r1 m σ H fun b H1 => TM B W r1' m' σ H1 fun b' H2 =>
      ∃ e c S sl a a', Rp B e c S sl σ H2 ∧ r1 c H2 a b ∧ r1' c H2 a' b' ∧ PM B W r2 e sl σ c H2 (f a a' ⟨sl, e.κs⟩ S) Q := by
  obtain ⟨e, c, S, sl, R0, p⟩ := h
  refine ⟨e, c, S, sl, R0, p.bind.imp fun b H1 ⟨c1, S1, a, R1, _, ra, p1⟩ => ⟨e, c1, S1, sl, R1, p1.bind.imp fun b2 H2 ⟨c2, S2, a2, R2, x2, ra2, p2⟩ => ⟨e, c2, S2, sl, a, a2, R2, mono (x2.keeps R1.st) ra, ra2, p2⟩⟩⟩
end Lk
set_option Elab.async false
set_option linter.all false
set_option maxRecDepth 100000
set_option maxHeartbeats 1000000
set_option autoImplicit false
namespace Lk
open PySem PySem.Spec PyProof.Rows L2 NdefX
/-! ### a value that is looked at: a container may be one that a name alone holds -/
inductive RB (K : PySem.W.Frag) (c : Cg) (H : Hp) : D → V → Prop
  | rv {d : D} {v : V} : RV K c H d v → RB K c H d v
  | tup {p : Addr} {xs : List V} {ds : List D} : SqT K H p xs → xs.length ≤ sizeLine → RVs K c H ds xs → RB K c H (.tup ds) (.ref p)
  | lst {p : Addr} {xs : List V} {ds : List D} : p ∉ c.ρ → H p = some (.lst xs) → xs.length ≤ sizeLine → RVs K c H ds xs → RB K c H (.lst ds) (.ref p)
  | dK {p : Addr} {es : List (Key × V)} {kvs : List (D × D)} : p ∉ c.ρ → H p = some (.dK es) → es.length ≤ sizeLine → RKs K c H kvs es → RB K c H (.dct kvs) (.ref p)
  | dT {p : Addr} {es : List (List Key × V)} {kvs : List (D × D)} : p ∉ c.ρ → H p = some (.dT es) → es.length ≤ sizeLine → RTs K c H kvs es → RB K c H (.dct kvs) (.ref p)
section
variable {B : Bd} {K : PySem.W.Frag} {c c' : Cg} {H H' : Hp} {S : Sto}
theorem RB.ext {d : D} {v : V} (x : Ext c H c' H') (s : StOk B c S H) (h : RB B.K c H d v) : RB B.K c' H' d v := by
  have nin : ∀ p o, H p = some o → p ∉ c.ρ → p ∉ c'.ρ := fun p o e n z => by
    rcases x.ρn p z with z | z
    · exact n z
    · rw [e] at z; cases z
  cases h with
  | rv h => exact .rv (h.keep (x.keeps s))
  | @tup p xs ds e z r =>
    refine .tup ?_ z (r.keep (x.keeps s))
    have kp : ∀ o, H p = some o → (∀ ps, o ≠ .tbl ps) → Rd H p (.tup xs) → H' p = some o := fun o q nt rr => x.keep _ o q (fun hm => by
      obtain ⟨ob, q⟩ := s.mem hm
      exact q.noTup rr) nt
    rcases e with e | e
    · rcases e with e | ⟨ob, e⟩
      · exact .inl (.inl (kp _ e (fun ps q => by cases q) (.inl e)))
      · exact .inl (.inr ⟨ob, kp _ e (fun ps q => by cases q) (.inr ⟨ob, e⟩)⟩)
    · exact .inr e
  | lst n e z r => exact .lst (nin _ _ e n) (x.keep _ _ e n (fun ps q => by cases q)) z (r.keep (x.keeps s))
  | dK n e z r => exact .dK (nin _ _ e n) (x.keep _ _ e n (fun ps q => by cases q)) z (r.keep (x.keeps s))
  | dT n e z r => exact .dT (nin _ _ e n) (x.keep _ _ e n (fun ps q => by cases q)) z (r.keep (x.keeps s))
theorem RB.lstAt {ds : List D} {v : V} (h : RB K c H (.lst ds) v) : ∃ p xs, v = .ref p ∧ Rd H p (.lst xs) ∧ xs.length ≤ sizeLine ∧ RVs K c H ds xs := by
  cases h with
  | rv h => cases h with
    | lst f e z r => exact ⟨_, _, rfl, e, z, r⟩
  | lst n e z r => exact ⟨_, _, rfl, .inl e, z, r⟩
theorem RB.tupAt {ds : List D} {v : V} (h : RB K c H (.tup ds) v) : ∃ p xs, v = .ref p ∧ SqT K H p xs ∧ xs.length ≤ sizeLine ∧ RVs K c H ds xs := by
  cases h with
  | rv h => cases h with
    | tup e z r => exact ⟨_, _, rfl, .of e, z, r⟩
  | tup e z r => exact ⟨_, _, rfl, e, z, r⟩
theorem RB.dctAt {kvs : List (D × D)} {v : V} (h : RB K c H (.dct kvs) v) : ∃ p, v = .ref p ∧ ((∃ es, Rd H p (.dK es) ∧ es.length ≤ sizeLine ∧ RKs K c H kvs es) ∨ ∃ es, Rd H p (.dT es) ∧ es.length ≤ sizeLine ∧ RTs K c H kvs es) := by
  cases h with
  | rv h => cases h with
    | dK f e z r => exact ⟨_, rfl, .inl ⟨_, .inr ⟨_, e⟩, z, r⟩⟩
    | dT f e z r => exact ⟨_, rfl, .inr ⟨_, .inr ⟨_, e⟩, z, r⟩⟩
  | dK n e z r => exact ⟨_, rfl, .inl ⟨_, .inl e, z, r⟩⟩
  | dT n e z r => exact ⟨_, rfl, .inr ⟨_, .inl e, z, r⟩⟩
theorem RV.lstAt {ds : List D} {v : V} (h : RV K c H (.lst ds) v) : ∃ p xs, v = .ref p ∧ c.F p ∧ Rd H p (.lst xs) ∧ xs.length ≤ sizeLine ∧ RVs K c H ds xs := by
  cases h with
  | lst f e z r => exact ⟨_, _, rfl, f, e, z, r⟩
theorem RV.tupAt {ds : List D} {v : V} (h : RV K c H (.tup ds) v) : ∃ p xs, v = .ref p ∧ H p = some (.tup xs) ∧ xs.length ≤ sizeLine ∧ RVs K c H ds xs := by
  cases h with
  | tup e z r => exact ⟨_, _, rfl, e, z, r⟩
theorem RB.ktAt {ds : List D} {v : V} (h : RB K c H (.ktup ds) v) : ∃ p xs, v = .ref p ∧ SqT K H p xs ∧ xs.length ≤ sizeLine ∧ RVs K c H ds xs := by
  cases h with
  | rv h => cases h with
    | ktK e z r => exact ⟨_, _, rfl, .inr e, z, r⟩
theorem RB.klAt {ds : List D} {v : V} (h : RB K c H (.klst ds) v) : ∃ p xs, v = .ref p ∧ SqL K H p xs ∧ xs.length ≤ sizeLine ∧ RVs K c H ds xs := by
  cases h with
  | rv h => cases h with
    | klF f e z r => exact ⟨_, _, rfl, .inl e, z, r⟩
    | klK e z r => exact ⟨_, _, rfl, .inr e, z, r⟩
theorem RV.intAt {i : Int} {v : V} (h : RV K c H (.int i) v) : v = .int i := by cases h; rfl
theorem RV.strAt {x : Str} {v : V} (h : RV K c H (.str x) v) : v = .str x ∧ okS x := by
  cases h with
  | str o => exact ⟨rfl, o⟩
theorem RB.intAt {i : Int} {v : V} (h : RB K c H (.int i) v) : v = .int i := by
  cases h with
  | rv h => cases h; rfl
theorem RB.strAt {x : Str} {v : V} (h : RB K c H (.str x) v) : v = .str x ∧ okS x := by
  cases h with
  | rv h => cases h with
    | str o => exact ⟨rfl, o⟩
theorem RB.blAt {b : Bool} {v : V} (h : RB K c H (.bl b) v) : v = .bl b := by
  cases h with
  | rv h => cases h; rfl
theorem RB.nonAt {v : V} (h : RB K c H .non v) : v = .non := by
  cases h with
  | rv h => cases h; rfl
/-- a result, all else being kept -/
def Done (K : PySem.W.Frag) (c : Cg) (H : Hp) (d : D) (Q : VK) : Prop := ∀ c' H' v, ExtP c H c' H' → RV K c' H' d v → Q v H'
theorem Done.now {d : D} {v : V} {Q : VK} (h : Done K c H d Q) (r : RV K c H d v) : Q v H := h c H v .refl r
theorem Done.tup {ds : List D} {vs : List V} {Q : VK} (h : Done K c H (.tup ds) Q) (r : RVs K c H ds vs) (z : vs.length ≤ sizeLine) {p : Addr} (hp : H p = none) : Q (.ref p) (upd H p (.tup vs)) :=
  h c _ _ (.new hp) (.tup upd_same z (r.keep (ExtP.new hp).keeps))
theorem Done.lst {ds : List D} {vs : List V} {Q : VK} (h : Done K c H (.lst ds) Q) (r : RVs K c H ds vs) (z : vs.length ≤ sizeLine) {p : Addr} (hp : H p = none) : Q (.ref p) (upd H p (.lst vs)) :=
  h (c.add p) _ _ (.newF hp) (.lst (.inr rfl) (.inl upd_same) z (r.keep (ExtP.newF hp).keeps))
/-! ### operators -/
/-- an operator over data -/
def rOp2 (K : PySem.W.Frag) (op : D → D → Option D) : R2 := fun x y H Q => ∃ c a b d, RV K c H a x ∧ RV K c H b y ∧ op a b = some d ∧ Done K c H d Q
theorem okS.append {a b : Str} (h : okS a) (h' : okS b) (z : a.length + b.length ≤ sizeLine) : okS (a ++ b) := by
  obtain ⟨_, h⟩ := h
  obtain ⟨_, h'⟩ := h'
  refine ⟨?_, ?_⟩
  · show (a.cps ++ b.cps).size ≤ _
    rw [Array.size_append]; exact z
  · show (a.cps ++ b.cps).all _ = true
    rw [Array.all_append, Bool.and_eq_true]; exact ⟨h, h'⟩
def addD : D → D → Option D
  | .int i, .int j => some (.int (i + j))
  | .str a, .str b => if a.length + b.length ≤ sizeLine then some (.str (a ++ b)) else none
  | .tup a, .tup b => if a.length + b.length ≤ sizeLine then some (.tup (a ++ b)) else none
  | .lst a, .lst b => if a.length + b.length ≤ sizeLine then some (.lst (a ++ b)) else none
  | _, _ => none
def subD : D → D → Option D
  | .int i, .int j => some (.int (i - j))
  | _, _ => none
/-- factors that may be multiplied -/
def small (i : Int) : Bool := decide (-(2 ^ 64) < i) && decide (i < 2 ^ 64)
def mulOk (i j : Int) : Bool := (small i || small j) || decide (i.natAbs.log2 + j.natAbs.log2 < 1000000)
def mulD : D → D → Option D
  | .int i, .int j => if mulOk i j then some (.int (i * j)) else none
  | .tup a, .int j => if a ≠ [] ∧ 1 ≤ j ∧ j ≤ 1000 ∧ a.length ≤ 1000 then some (.tup (List.replicate j.toNat a).flatten) else none
  | _, _ => none
def fdivD : D → D → Option D
  | .int i, .int j => if 0 < j ∧ j.natAbs.log2 < 9000 then some (.int (i / j)) else none
  | _, _ => none
def modD : D → D → Option D
  | .int i, .int j => if 0 < j then some (.int (i % j)) else none
  | _, _ => none
def powD : D → D → Option D
  | .int i, .int j => if 0 ≤ j ∧ j ≤ 1000000 ∧ i.natAbs < 2 ^ 64 then some (.int (i ^ j.toNat)) else none
  | _, _ => none
end
section
variable {X : Cx} {pins : List (Addr × Obj)} {σ : L2.St} {H : Hp} {s : Shared}
theorem rd_lst (I : Inv X pins σ H s) {p : Addr} {xs : List V} (h : Rd H p (.lst xs)) : xs.length ≤ sizeLine ∧ ∃ (its : List Value) (n : Nat), Vals xs its ∧ xs.length = its.length ∧ s.heap.get? p = some { cls := .type "list", data := .seq its.toArray n } := by
  obtain ⟨z, its, n, r, e⟩ := h.ok I.hok
  exact ⟨z, its, n, r, r.length, e⟩
theorem op_addD : OpR X (binaryOp .Add) (rOp2 X.K addD) := by
  intro pins s σ H x y v u Q I rx ry h
  obtain ⟨c, a, b, d, ra, rb, e, k⟩ := h
  unfold addD at e
  split at e
  · cases e
    obtain rfl := ra.intAt
    obtain rfl := rb.intAt
    exact op_add pins s σ H _ _ v u Q I rx ry ⟨_, _, rfl, rfl, k.now (.int _)⟩
  · split at e
    · rename_i hz
      cases e
      obtain ⟨rfl, o1⟩ := ra.strAt
      obtain ⟨rfl, o2⟩ := rb.strAt
      exact op_add_str pins s σ H _ _ v u Q I rx ry ⟨_, _, rfl, rfl, hz, k.now (.str (o1.append o2 hz))⟩
    · cases e
  · split at e
    · rename_i hz
      cases e
      obtain ⟨p, xs, rfl, h1, z1, r1⟩ := ra.tupAt
      obtain ⟨q, ys, rfl, h2, z2, r2⟩ := rb.tupAt
      have hl : xs.length + ys.length ≤ sizeLine := by rw [← r1.length, ← r2.length]; exact hz
      refine op_catA pins s σ H _ _ v u Q I rx ry ⟨p, q, xs, ys, rfl, rfl, .of h1, .of h2, hl, fun e => ?_, fun _ e => ?_, fun _ _ t ht => ?_⟩
      · subst e
        cases r1
        exact k.now (.tup h2 z2 r2)
      · subst e
        cases r2
        rw [List.append_nil] at k
        exact k.now (.tup h1 z1 r1)
      · exact k.tup (r1.append r2) (by rw [List.length_append]; exact hl) ht
    · cases e
  · split at e
    · rename_i hz
      cases e
      obtain ⟨p, xs, rfl, _, h1, z1, r1⟩ := ra.lstAt
      obtain ⟨q, ys, rfl, _, h2, z2, r2⟩ := rb.lstAt
      have hl : xs.length + ys.length ≤ sizeLine := by rw [← r1.length, ← r2.length]; exact hz
      cases rx
      cases ry
      obtain ⟨_, its, n, w1, l1, e1⟩ := rd_lst I h1
      obtain ⟨_, its2, n2, w2, l2, e2⟩ := rd_lst I h2
      refine PySem.P.add_list e1 e2 ?_ (by rw [List.size_toArray, List.size_toArray]; omega)
      have ea : its.toArray ++ its2.toArray = (its ++ its2).toArray := by simp
      rw [ea]
      exact ⟨.ref _, _, I.lnew (t' := s.toks) (w1.append w2) (by rw [List.length_append]; omega), rfl, k.lst (r1.append r2) (by rw [List.length_append]; exact hl) I.fresh⟩
    · cases e
  · cases e
theorem op_subD : OpR X (binaryOp .Sub) (rOp2 X.K subD) := by
  intro pins s σ H x y v u Q I rx ry h
  obtain ⟨c, a, b, d, ra, rb, e, k⟩ := h
  unfold subD at e
  split at e
  · cases e
    obtain rfl := ra.intAt
    obtain rfl := rb.intAt
    exact op_sub pins s σ H _ _ v u Q I rx ry ⟨_, _, rfl, rfl, k.now (.int _)⟩
  · cases e
theorem op_fdivD : OpR X (binaryOp .FloorDiv) (rOp2 X.K fdivD) := by
  intro pins s σ H x y v u Q I rx ry h
  obtain ⟨c, a, b, d, ra, rb, e, k⟩ := h
  unfold fdivD at e
  split at e
  · split at e
    · rename_i hz
      cases e
      obtain rfl := ra.intAt
      obtain rfl := rb.intAt
      exact op_fdivW pins s σ H _ _ v u Q I rx ry ⟨_, _, rfl, rfl, hz, k.now (.int _)⟩
    · cases e
  · cases e
theorem op_modD : OpR X (binaryOp .Mod) (rOp2 X.K modD) := by
  intro pins s σ H x y v u Q I rx ry h
  obtain ⟨c, a, b, d, ra, rb, e, k⟩ := h
  unfold modD at e
  split at e
  · split at e
    · rename_i hz
      cases e
      obtain rfl := ra.intAt
      obtain rfl := rb.intAt
      exact op_mod pins s σ H _ _ v u Q I rx ry ⟨_, _, rfl, rfl, hz, k.now (.int _)⟩
    · cases e
  · cases e
theorem tuple_mul1 (l : Addr) (items : Array Value) (n : Nat) (dd : Option Addr) (sl : Array (Option Value)) (u : Tok) :
    Meets (Builtin.«tuple.__mul__» ⟨[.ref l, .int 1 u], []⟩) (fun _ R s => s.heap.get? l = some { cls := .type "tuple", dict := dd, data := .seq items n, slots := sl } ∧
      R (.ok (.ret (Value.ref l))) s) :=
  .of_wp fun prog w A R s h => by
    obtain ⟨hp, g, d, tk, os⟩ := s
    obtain ⟨hl, h⟩ := h
    have f1 := AutoSeq1.idx_int
    wp_walk using wpAny_loadPart' hl
    repeat (first
      | (refine wpAny_ite_false (decide_eq_false (by decide)) ?_; wp_walk using wpAny_loadPart' hl)
      | (refine wpAny_ite_true (decide_eq_true (by rw [show ((1 : Int) == 1) = true from rfl, Bool.or_true])) ?_; wp_walk using wpAny_loadPart' hl))
    exact ⟨_, rfl, h⟩
theorem RVs.rep {K : PySem.W.Frag} {c : Cg} {H : Hp} {ds : List D} {vs : List V} (r : RVs K c H ds vs) : ∀ n, RVs K c H (List.replicate n ds).flatten (List.replicate n vs).flatten
  | 0 => .nil
  | n + 1 => by
    rw [List.replicate_succ, List.replicate_succ, List.flatten_cons, List.flatten_cons]
    exact r.append (RVs.rep r n)
theorem op_mulD : OpR X (binaryOp .Mult) (rOp2 X.K mulD) := by
  intro pins s σ H x y v u Q I rx ry h
  obtain ⟨c, a, b, d, ra, rb, e, k⟩ := h
  unfold mulD at e
  split at e
  · split at e
    · rename_i hz
      cases e
      obtain rfl := ra.intAt
      obtain rfl := rb.intAt
      unfold mulOk at hz
      rcases Bool.or_eq_true_iff.mp hz with h9 | h9
      · have sm : ∀ i : Int, small i = true → -(2 ^ 64) < i ∧ i < 2 ^ 64 := fun i h => by
          obtain ⟨h1, h2⟩ := Bool.and_eq_true_iff.mp h
          exact ⟨of_decide_eq_true h1, of_decide_eq_true h2⟩
        exact op_mul pins s σ H _ _ v u Q I rx ry ⟨_, _, rfl, rfl, (Bool.or_eq_true_iff.mp h9).imp (sm _) (sm _), k.now (.int _)⟩
      · have h10 := of_decide_eq_true h9
        exact op_mulW pins s σ H _ _ v u Q I rx ry ⟨_, _, rfl, rfl, h10, k.now (.int _)⟩
    · cases e
  · split at e
    · rename_i hz
      cases e
      obtain ⟨p, xs, rfl, h1, z1, r1⟩ := ra.tupAt
      obtain rfl := rb.intAt
      rename_i j
      have hl := r1.length
      by_cases hj : j = 1
      · subst hj
        cases rx
        obtain ⟨t, rfl⟩ := ry
        obtain ⟨its, r, ⟨⟨cls, dd, data, sl⟩, ho, hc, n, hd⟩, hs⟩ := I.tuple (SqT.of h1)
        simp only at hc hd
        subst hc hd
        refine wpAny_binaryOp_repeat_ref (T := "tuple") (U := "int") (by decide) ⟨_, ho, rfl⟩ (fun s' => typeIs_int s' 1 t) noFill_tuple_mul F.fills_int_mul F.slot_int_rmul repeat_tuple F.slot_int_index.lookup
          (call_meets F.slot_int_rmul (typeIs_int s 1 t) F.entry_int_rmul (F.args_int_rmul_2 _ _) (int_rmul_tuple 1 t p its.toArray n dd sl)
            ⟨ho, rfl, ⟨_, ho, rfl⟩, call_meets F.slot_tuple_mul ⟨_, ho, rfl⟩ F.entry_tuple_mul (F.args_tuple_mul_2 _ _) (tuple_mul1 p its.toArray n dd sl t) ⟨ho, ?_⟩⟩)
        refine ⟨.ref p, H, I, rfl, k.now ?_⟩
        have e1 : ∀ (l : List D), (List.replicate (1 : Int).toNat l).flatten = l := fun l => by simp
        rw [e1]
        exact .tup h1 z1 r1
      · refine op_repT pins s σ H _ _ v u Q I rx ry ⟨p, j, xs, rfl, rfl, .of h1, fun q => ?_, by omega, hz.2.2.1, by rw [← hl]; exact hz.2.2.2, fun t ht => k.tup (r1.rep _) ?_ ht⟩
        · subst q; cases r1; exact hz.1 rfl
        · rw [PyProof.Rows.lm_len_rep_flat, sizeLine_eq]
          have a1 : j.toNat * xs.length ≤ 1000 * 1000 := Nat.mul_le_mul (by omega) (by rw [← hl]; exact hz.2.2.2)
          omega
    · cases e
  · cases e
theorem op_powD : OpR X (binaryOp .Pow) (rOp2 X.K powD) := by
  intro pins s σ H x y v u Q I rx ry h
  obtain ⟨c, a, b, d, ra, rb, e, k⟩ := h
  unfold powD at e
  split at e
  · split at e
    · rename_i hz
      cases e
      obtain rfl := ra.intAt
      obtain rfl := rb.intAt
      exact op_pow pins s σ H _ _ v u Q I rx ry ⟨_, _, rfl, rfl, hz, k.now (.int _)⟩
    · cases e
  · cases e
end
end Lk
set_option Elab.async false
set_option linter.all false
set_option maxRecDepth 100000
set_option maxHeartbeats 1000000
set_option autoImplicit false
namespace Lk
open PySem PySem.Spec PyProof.Rows L2 NdefX
/-! ### equality, order -/
mutual
def D.P : D → PyData
  | .non => .none
  | .bl b => .bool b
  | .int i => .int i
  | .str x => .str x
  | .tup xs => .tuple (Ps xs)
  | .lst xs => .list (Ps xs)
  | .dct _ => .none
  | .obj _ => .none
  | .klst _ => .none
  | .ktup _ => .none
  | .clo _ => .none
def Ps : List D → List PyData
  | [] => []
  | d :: ds => d.P :: Ps ds
end
mutual
def D.plain : D → Bool
  | .non => true
  | .bl _ => true
  | .int _ => true
  | .str _ => true
  | .tup xs => plains xs
  | .lst xs => plains xs
  | .dct _ => false
  | .obj _ => false
  | .klst _ => false
  | .ktup _ => false
  | .clo _ => false
def plains : List D → Bool
  | [] => true
  | d :: ds => d.plain && plains ds
end
theorem Ps_eq : ∀ ds : List D, Ps ds = ds.map D.P
  | [] => rfl
  | d :: ds => by rw [Ps, Ps_eq ds]; rfl
theorem plains_eq : ∀ ds : List D, plains ds = ds.all D.plain
  | [] => rfl
  | d :: ds => by rw [plains, plains_eq ds]; rfl
section
variable {K : PySem.W.Frag} {c : Cg} {H : Hp}
mutual
theorem RV.dp : ∀ {d : D} {v : V}, RV K c H d v → d.plain = true → Dp K H v d.P ∧ d.P.canLay0 = true
  | _, _, .non, _ => ⟨.non, rfl⟩
  | _, _, .bl b, _ => ⟨.bl b, rfl⟩
  | _, _, .int i, _ => ⟨.int i, rfl⟩
  | _, _, .str o, _ => ⟨.str _, o.2⟩
  | _, _, .tup e z r, h => ⟨.tup (.of e) (RVs.dp r h).1, (RVs.dp r h).2⟩
  | _, _, .lst f e z r, h => ⟨.lst (.inl e) (RVs.dp r h).1, (RVs.dp r h).2⟩
  | _, _, .dK _ _ _ _, h => by cases h
  | _, _, .dT _ _ _ _, h => by cases h
  | _, _, .obj _, h => by cases h
  | _, _, .klF _ _ _ _, h => by cases h
  | _, _, .klK _ _ _, h => by cases h
  | _, _, .ktK _ _ _, h => by cases h
theorem RVs.dp : ∀ {ds : List D} {vs : List V}, RVs K c H ds vs → plains ds = true → DpAll K H vs (Ps ds) ∧ PyData.canLayAll0 (Ps ds) = true
  | _, _, .nil, _ => ⟨.nil, rfl⟩
  | _, _, .cons a r, h => by
    obtain ⟨h1, h2⟩ := Bool.and_eq_true_iff.mp h
    obtain ⟨a1, a2⟩ := RV.dp a h1
    obtain ⟨r1, r2⟩ := RVs.dp r h2
    exact ⟨.cons a1 r1, Bool.and_eq_true_iff.mpr ⟨a2, r2⟩⟩
end
theorem RB.dp {d : D} {v : V} (h : RB K c H d v) (p : d.plain = true) : Dp K H v d.P ∧ d.P.canLay0 = true := by
  cases h with
  | rv h => exact h.dp p
  | tup e z r => exact ⟨.tup e (r.dp p).1, (r.dp p).2⟩
  | lst n e z r => exact ⟨.lst (.of e) (r.dp p).1, (r.dp p).2⟩
  | dK => cases p
  | dT => cases p
end
/-- a comparison over data -/
def rCmp (K : PySem.W.Frag) (f : D → D → Option Bool) : R2 := fun x y H Q => ∃ c a b k, RB K c H a x ∧ RB K c H b y ∧ f a b = some k ∧ Q (.bl k) H
def eqOk (d : D) : Bool := d.plain && decide (d.P.depth ≤ 64)
def eqD (a b : D) : Option Bool := if eqOk a && eqOk b then some (PyData.eqv a.P b.P) else none
def neD (a b : D) : Option Bool := (eqD a b).map not
def ltS (a b : Str) : Bool := decide (a.cps.toList < b.cps.toList)
def ltD : D → D → Option Bool
  | .int i, .int j => some (decide (i < j))
  | .str i, .str j => some (ltS i j)
  | _, _ => none
def leD : D → D → Option Bool
  | .int i, .int j => some (decide (i ≤ j))
  | .str i, .str j => some (!ltS j i)
  | _, _ => none
def gtD : D → D → Option Bool
  | .int i, .int j => some (decide (j < i))
  | .str i, .str j => some (ltS j i)
  | _, _ => none
def geD : D → D → Option Bool
  | .int i, .int j => some (decide (j ≤ i))
  | .str i, .str j => some (!ltS i j)
  | _, _ => none
section
variable {X : Cx}
theorem op_eqDD (hu : X.A.units + 64 < cLine) : OpR X (compareOp .Eq) (rCmp X.K eqD) := by
  intro pins s σ H x y v u Q I rx ry h
  obtain ⟨c, a, b, k, ra, rb, e, q⟩ := h
  unfold eqD at e
  split at e
  · rename_i hz
    cases e
    obtain ⟨h1, h2⟩ := Bool.and_eq_true_iff.mp hz
    obtain ⟨p1, d1⟩ := Bool.and_eq_true_iff.mp h1
    obtain ⟨p2, d2⟩ := Bool.and_eq_true_iff.mp h2
    obtain ⟨w1, l1⟩ := ra.dp p1
    obtain ⟨w2, l2⟩ := rb.dp p2
    exact op_eqD hu pins s σ H x y v u Q I rx ry ⟨_, _, w1, w2, Bool.and_eq_true_iff.mpr ⟨l1, d1⟩, Bool.and_eq_true_iff.mpr ⟨l2, d2⟩, q⟩
  · cases e
theorem op_neDD (hu : X.A.units + 64 < cLine) : OpR X (compareOp .NotEq) (rCmp X.K neD) := by
  intro pins s σ H x y v u Q I rx ry h
  obtain ⟨c, a, b, k, ra, rb, e, q⟩ := h
  unfold neD eqD at e
  split at e
  · rename_i hz
    cases e
    obtain ⟨h1, h2⟩ := Bool.and_eq_true_iff.mp hz
    obtain ⟨p1, d1⟩ := Bool.and_eq_true_iff.mp h1
    obtain ⟨p2, d2⟩ := Bool.and_eq_true_iff.mp h2
    obtain ⟨w1, l1⟩ := ra.dp p1
    obtain ⟨w2, l2⟩ := rb.dp p2
    exact op_neD hu pins s σ H x y v u Q I rx ry ⟨_, _, w1, w2, Bool.and_eq_true_iff.mpr ⟨l1, d1⟩, Bool.and_eq_true_iff.mpr ⟨l2, d2⟩, q⟩
  · cases e
theorem op_ltDD : OpR X (compareOp .Lt) (rCmp X.K ltD) := by
  intro pins s σ H x y v u Q I rx ry h
  obtain ⟨c, a, b, k, ra, rb, e, q⟩ := h
  unfold ltD at e
  split at e
  · cases e
    obtain rfl := ra.intAt
    obtain rfl := rb.intAt
    exact op_lt pins s σ H _ _ v u Q I rx ry ⟨_, _, rfl, rfl, q⟩
  · cases e
    obtain ⟨rfl, _⟩ := ra.strAt
    obtain ⟨rfl, _⟩ := rb.strAt
    exact op_lt_str pins s σ H _ _ v u Q I rx ry ⟨_, _, rfl, rfl, q⟩
  · cases e
theorem op_leDD : OpR X (compareOp .LtE) (rCmp X.K leD) := by
  intro pins s σ H x y v u Q I rx ry h
  obtain ⟨c, a, b, k, ra, rb, e, q⟩ := h
  unfold leD at e
  split at e
  · cases e
    obtain rfl := ra.intAt
    obtain rfl := rb.intAt
    exact op_le pins s σ H _ _ v u Q I rx ry ⟨_, _, rfl, rfl, q⟩
  · cases e
    obtain ⟨rfl, _⟩ := ra.strAt
    obtain ⟨rfl, _⟩ := rb.strAt
    exact op_le_str pins s σ H _ _ v u Q I rx ry ⟨_, _, rfl, rfl, q⟩
  · cases e
theorem op_gtDD : OpR X (compareOp .Gt) (rCmp X.K gtD) := by
  intro pins s σ H x y v u Q I rx ry h
  obtain ⟨c, a, b, k, ra, rb, e, q⟩ := h
  unfold gtD at e
  split at e
  · cases e
    obtain rfl := ra.intAt
    obtain rfl := rb.intAt
    exact op_gt pins s σ H _ _ v u Q I rx ry ⟨_, _, rfl, rfl, q⟩
  · cases e
    obtain ⟨rfl, _⟩ := ra.strAt
    obtain ⟨rfl, _⟩ := rb.strAt
    exact op_gt_str pins s σ H _ _ v u Q I rx ry ⟨_, _, rfl, rfl, q⟩
  · cases e
theorem op_geDD : OpR X (compareOp .GtE) (rCmp X.K geD) := by
  intro pins s σ H x y v u Q I rx ry h
  obtain ⟨c, a, b, k, ra, rb, e, q⟩ := h
  unfold geD at e
  split at e
  · cases e
    obtain rfl := ra.intAt
    obtain rfl := rb.intAt
    exact op_ge pins s σ H _ _ v u Q I rx ry ⟨_, _, rfl, rfl, q⟩
  · cases e
    obtain ⟨rfl, _⟩ := ra.strAt
    obtain ⟨rfl, _⟩ := rb.strAt
    exact op_ge_str pins s σ H _ _ v u Q I rx ry ⟨_, _, rfl, rfl, q⟩
  · cases e
end
/-! ### keys, dicts -/
abbrev KQ := Sum Key (List Key)
def keyS : D → Option Key
  | .int i => some (.inl i)
  | .str x => some (.inr x)
  | _ => none
def keysS : List D → Option (List Key)
  | [] => some []
  | d :: ds => match keyS d, keysS ds with
    | some k, some ks => some (k :: ks)
    | _, _ => none
def keyQ : D → Option KQ
  | .tup ds => (keysS ds).map .inr
  | d => (keyS d).map .inl
theorem keyS_kD (k : Key) : keyS (kD k) = some k := by cases k <;> rfl
theorem kD_keyS {d : D} {k : Key} (h : keyS d = some k) : d = kD k := by
  cases d <;> simp [keyS] at h <;> subst h <;> rfl
theorem keysS_map : ∀ ks : List Key, keysS (ks.map kD) = some ks
  | [] => rfl
  | k :: ks => by rw [List.map_cons, keysS, keyS_kD, keysS_map ks]
theorem map_keysS : ∀ {ds : List D} {ks : List Key}, keysS ds = some ks → ds = ks.map kD
  | [], ks, h => by simp [keysS] at h; subst h; rfl
  | d :: ds, ks, h => by
    cases h1 : keyS d with
    | none => simp [keysS, h1] at h
    | some k =>
      cases h2 : keysS ds with
      | none => simp [keysS, h1, h2] at h
      | some ks' =>
        simp [keysS, h1, h2] at h
        subst h
        rw [List.map_cons, ← kD_keyS h1, ← map_keysS h2]
theorem keyQ_kD (k : Key) : keyQ (kD k) = some (.inl k) := by cases k <;> rfl
theorem keyQ_kT (k : List Key) : keyQ (kT k) = some (.inr k) := by
  show (keysS (k.map kD)).map Sum.inr = _
  rw [keysS_map]; rfl
theorem keyQ_inl {d : D} {k : Key} (h : keyQ d = some (.inl k)) : d = kD k := by
  cases d <;> simp [keyQ, keyS] at h <;> subst h <;> rfl
theorem keyQ_inr {d : D} {k : List Key} (h : keyQ d = some (.inr k)) : d = kT k := by
  cases d <;> simp [keyQ, keyS] at h
  · show D.tup _ = .tup _
    rw [map_keysS h]
/-- whether a key is of the kind of a dict's keys -/
def kindOk (kvs : List (D × D)) (q : KQ) : Bool := match kvs with
  | [] => true
  | kv :: _ => match keyQ kv.1, q with
    | some (.inl _), .inl _ => true
    | some (.inr _), .inr _ => true
    | _, _ => false
def findD (kvs : List (D × D)) (q : KQ) : Option D := (kvs.find? fun kv => decide (keyQ kv.1 = some q)).map (·.2)
/-- what a dict holds at a key: none: it has no meaning -/
def lookD (kvs : List (D × D)) (k : D) : Option (Option D) := match keyQ k with
  | some q => if kindOk kvs q then some (findD kvs q) else none
  | none => none
section
variable {K : PySem.W.Frag} {c : Cg} {H : Hp}
theorem findK : ∀ {kvs : List (D × D)} {es : List (Key × V)} (k : Key), RKs K c H kvs es → (findD kvs (.inl k) = none ∧ valV es k = none) ∨ ∃ d v, findD kvs (.inl k) = some d ∧ valV es k = some v ∧ RV K c H d v
  | _, _, k, .nil => .inl ⟨rfl, rfl⟩
  | _, _, k, .cons (k := k') (ds := ds) (vs := vs) _ h r => by
    by_cases e : k' = k
    · subst e
      refine .inr ⟨_, _, ?_, ?_, h⟩
      · unfold findD; rw [List.find?_cons_of_pos (by simp [keyQ_kD])]; rfl
      · unfold valV; rw [List.find?_cons_of_pos (by simp)]; rfl
    · have e1 : ∀ d, findD ((kD k', d) :: ds) (.inl k) = findD ds (.inl k) := fun d => by
        unfold findD; rw [List.find?_cons_of_neg (by simp [keyQ_kD, e])]
      have e2 : ∀ v, valV ((k', v) :: vs) k = valV vs k := fun v => by
        unfold valV; rw [List.find?_cons_of_neg (by simp [e])]
      rw [e1, e2]
      exact findK k r
theorem findT : ∀ {kvs : List (D × D)} {es : List (List Key × V)} (k : List Key), RTs K c H kvs es → (findD kvs (.inr k) = none ∧ valV es k = none) ∨ ∃ d v, findD kvs (.inr k) = some d ∧ valV es k = some v ∧ RV K c H d v
  | _, _, k, .nil => .inl ⟨rfl, rfl⟩
  | _, _, k, .cons (k := k') (ds := ds) (vs := vs) _ h r => by
    by_cases e : k' = k
    · subst e
      refine .inr ⟨_, _, ?_, ?_, h⟩
      · unfold findD; rw [List.find?_cons_of_pos (by simp [keyQ_kT])]; rfl
      · unfold valV; rw [List.find?_cons_of_pos (by simp)]; rfl
    · have e1 : ∀ d, findD ((kT k', d) :: ds) (.inr k) = findD ds (.inr k) := fun d => by
        unfold findD; rw [List.find?_cons_of_neg (by simp [keyQ_kT, e])]
      have e2 : ∀ v, valV ((k', v) :: vs) k = valV vs k := fun v => by
        unfold valV; rw [List.find?_cons_of_neg (by simp [e])]
      rw [e1, e2]
      exact findT k r
end
/-- a dict that is empty has keys of any kind -/
theorem retype {P : Program} {w : World} {H : Hp} {h : Heap} {a : Addr} (ok : ObjOk P w H h a (.dK [])) : ObjOk P w H h a (.dT []) := by
  obtain ⟨z, hd, vs, rel, o, es, ep, h1, h2, h3, h4, h5, h6⟩ := ok
  cases rel
  have e0 : es.toList = [] := by
    cases q : es.toList with
    | nil => rfl
    | cons a l => rw [q] at h5; cases h5
  exact ⟨Nat.zero_le _, hd, [], .nil, o, es, ep, h1, h2, h3, by rw [e0]; rfl, List.nodup_nil⟩
end Lk
set_option Elab.async false
set_option linter.all false
set_option maxRecDepth 100000
set_option maxHeartbeats 1000000
set_option autoImplicit false
namespace Lk
open PySem PySem.Spec PyProof.Rows L2 NdefX
/-! ### in -/
def D.flat : D → Bool
  | .non => true
  | .bl _ => true
  | .int _ => true
  | .str _ => true
  | _ => false
def inS (i j : Str) : Bool := !(Builtin.Str.occurrences j i 0 j.length 1).isEmpty
def anyEq (a : D) (ds : List D) : Bool := ds.any fun z => PyData.eqv z.P a.P
def inD : D → D → Option Bool
  | a, .tup ds => if a.flat && ds.all D.flat then some (anyEq a ds) else none
  | a, .ktup ds => if a.flat && ds.all D.flat then some (anyEq a ds) else none
  | a, .lst ds => if eqOk a && eqOk (.lst ds) then some (anyEq a ds) else none
  | a, .dct kvs => (lookD kvs a).map Option.isSome
  | .str i, .str j => some (inS i j)
  | _, _ => none
def ninD (a b : D) : Option Bool := (inD a b).map not
section
variable {K : PySem.W.Frag} {c : Cg} {H : Hp}
theorem RV.flat {d : D} {v : V} (h : RV K c H d v) (f : d.flat = true) : flatV v = true := by
  cases h <;> first | rfl | cases f
theorem RB.flat {d : D} {v : V} (h : RB K c H d v) (f : d.flat = true) : flatV v = true ∧ RV K c H d v := by
  cases h with
  | rv h => exact ⟨h.flat f, h⟩
  | tup => cases f
  | lst => cases f
  | dK => cases f
  | dT => cases f
theorem eqV_eqv {d e : D} {v u : V} (h : RV K c H d v) (h' : RV K c H e u) (f : d.flat = true) (f' : e.flat = true) : eqV v u = PyData.eqv d.P e.P := by
  cases h <;> first
    | (cases f; done)
    | (cases h' <;> first | (cases f'; done) | rfl | simp [eqV, D.P, PyData.eqv])
theorem inV_any {a : D} {x : V} (ha : RV K c H a x) (fa : a.flat = true) : ∀ {ds : List D} {xs : List V}, RVs K c H ds xs → ds.all D.flat = true → xs.all flatV = true ∧ inV x xs = anyEq a ds
  | _, _, .nil, _ => ⟨rfl, rfl⟩
  | _, _, .cons h r, f => by
    obtain ⟨f1, f2⟩ := Bool.and_eq_true_iff.mp f
    obtain ⟨g1, g2⟩ := inV_any ha fa r f2
    refine ⟨Bool.and_eq_true_iff.mpr ⟨h.flat f1, g1⟩, ?_⟩
    show (eqV _ x || inV x _) = (PyData.eqv _ a.P || anyEq a _)
    rw [eqV_eqv h ha f1 fa, g2]
end
theorem any_P (a : D) : ∀ ds : List D, ((Ps ds).any fun z => PyData.eqv z a.P) = anyEq a ds
  | [] => rfl
  | d :: ds => by
    show (PyData.eqv d.P a.P || (Ps ds).any _) = (PyData.eqv d.P a.P || anyEq a ds)
    rw [any_P a ds]
section
variable {X : Cx} {pins : List (Addr × Obj)} {σ : L2.St} {H : Hp} {s : Shared}
theorem eqOk_dp {c : Cg} {d : D} {v : V} (h : RB X.K c H d v) (o : eqOk d = true) : Dp X.K H v d.P ∧ SeqAt.shaped d.P = true := by
  obtain ⟨p, q⟩ := Bool.and_eq_true_iff.mp o
  obtain ⟨a, b⟩ := h.dp p
  exact ⟨a, Bool.and_eq_true_iff.mpr ⟨b, q⟩⟩
/-- what is read of a dict: DGet, and an empty dict's keys of any kind -/
inductive DGx (H : Hp) (a : Addr) (y : V) (o : Option V) : Prop
  | of : DGet H a y o → DGx H a y o
  | empty {b : Addr} {k : List Key} : Rd H a (.dK []) → y = .ref b → H b = some (.tup (k.map kV)) → o = none → DGx H a y o
theorem kV_kD {K : PySem.W.Frag} {c : Cg} {H : Hp} {k : Key} {v : V} (h : RV K c H (kD k) v) : v = kV k := by
  cases k with
  | inl i => exact h.intAt
  | inr x => exact h.strAt.1
theorem kVs_kD {K : PySem.W.Frag} {c : Cg} {H : Hp} : ∀ {ks : List Key} {vs : List V}, RVs K c H (ks.map kD) vs → vs = ks.map kV
  | [], _, .nil => rfl
  | k :: ks, _, .cons h r => by rw [List.map_cons, kV_kD h, kVs_kD r]
theorem kT_at {K : PySem.W.Frag} {c : Cg} {H : Hp} {ks : List Key} {v : V} (h : RV K c H (kT ks) v) : ∃ b, v = .ref b ∧ H b = some (.tup (ks.map kV)) := by
  obtain ⟨p, xs, rfl, e, _, r⟩ := RV.tupAt h
  exact ⟨p, rfl, by rw [e, kVs_kD r]⟩
theorem kind_K {K : PySem.W.Frag} {c : Cg} {H : Hp} {kvs : List (D × D)} {es : List (Key × V)} (r : RKs K c H kvs es) {k : List Key} (o : kindOk kvs (.inr k) = true) : kvs = [] ∧ es = [] := by
  cases r with
  | nil => exact ⟨rfl, rfl⟩
  | cons _ h r => simp [kindOk, keyQ_kD] at o
theorem kind_T {K : PySem.W.Frag} {c : Cg} {H : Hp} {kvs : List (D × D)} {es : List (List Key × V)} (r : RTs K c H kvs es) {k : Key} (o : kindOk kvs (.inl k) = true) : kvs = [] ∧ es = [] := by
  cases r with
  | nil => exact ⟨rfl, rfl⟩
  | cons _ h r => simp [kindOk, keyQ_kT] at o
/-- .. also an empty dict of tuple keys asked for a plain key -/
inductive DGz (H : Hp) (a : Addr) (y : V) (o : Option V) : Prop
  | of : DGx H a y o → DGz H a y o
  | empty {k : Key} : Rd H a (.dT []) → y = kV k → o = none → DGz H a y o
theorem look_dg {c : Cg} {kvs : List (D × D)} {k : D} {x y : V} {o : Option D} (hk : RV X.K c H k x) (hd : RB X.K c H (.dct kvs) y) (e : lookD kvs k = some o) :
    ∃ a ov, y = .ref a ∧ DGz H a x ov ∧ ((o = none ∧ ov = none) ∨ ∃ d v, o = some d ∧ ov = some v ∧ RV X.K c H d v) := by
  obtain ⟨a, rfl, hh⟩ := hd.dctAt
  unfold lookD at e
  split at e
  · rename_i q hq
    split at e
    · rename_i ho
      cases e
      cases q with
      | inl k' =>
        have ek := keyQ_inl hq
        subst ek
        have ey := kV_kD hk
        subst ey
        rcases hh with ⟨es, hr, z, r⟩ | ⟨es, hr, z, r⟩
        · refine ⟨a, valV es k', rfl, .of (.of (.inl ⟨es, k', hr, rfl, rfl⟩)), ?_⟩
          rcases findK k' r with ⟨h1, h2⟩ | ⟨d, v, h1, h2, h3⟩
          · exact .inl ⟨h1, h2⟩
          · exact .inr ⟨d, v, h1, h2, h3⟩
        · obtain ⟨e1, e2⟩ := kind_T r ho
          subst e1 e2
          exact ⟨a, none, rfl, .empty (k := k') hr rfl rfl, .inl ⟨rfl, rfl⟩⟩
      | inr k' =>
        have ek := keyQ_inr hq
        subst ek
        obtain ⟨b, rfl, eb⟩ := kT_at hk
        rcases hh with ⟨es, hr, z, r⟩ | ⟨es, hr, z, r⟩
        · obtain ⟨e1, e2⟩ := kind_K r ho
          subst e1 e2
          exact ⟨a, none, rfl, .of (.empty hr rfl eb rfl), .inl ⟨rfl, rfl⟩⟩
        · refine ⟨a, valV es k', rfl, .of (.of (.inr ⟨es, k', b, hr, rfl, eb, rfl⟩)), ?_⟩
          rcases findT k' r with ⟨h1, h2⟩ | ⟨d, v, h1, h2, h3⟩
          · exact .inl ⟨h1, h2⟩
          · exact .inr ⟨d, v, h1, h2, h3⟩
    · cases e
  · cases e
/-- an empty dict asked for a tuple -/
theorem dt_empty {P : Program} {w : World} {h : Heap} {a : Addr} (ok : HOk P w H h) (e : Rd H a (.dK [])) : (a == sysModules) = false ∧ h.DictOfH (tupleKind (mixKind P w)) a [] := by
  obtain ⟨z, hd, xs, r, o, es, ep, h1, h2, h3, h4, h5⟩ := retype (rd_of ok e)
  cases r
  exact ⟨hd, o, es, ep, h1, h2, h3, h4, (fun x hx => nomatch hx), h5⟩
/-- an empty dict asked for a plain key -/
theorem dk_empty {P : Program} {w : World} {h : Heap} {a : Addr} (ok : HOk P w H h) (e : Rd H a (.dT [])) : (a == sysModules) = false ∧ h.DictOf (mixKind P w) a [] := by
  obtain ⟨z, hd, xs, r, o, es, ep, h1, h2, h3, h4, h5⟩ := (show ObjOk P w H h a (.dT []) from rd_of ok e)
  cases r
  have e0 : es.toList = [] := h4
  refine ⟨hd, o, es, ep, h1, h2, h3, fun x hx => ?_, ?_, List.nodup_nil⟩
  · have q : x ∈ es.toList := by simpa using hx
    rw [e0] at q; cases q
  · rw [e0]; exact .nil
theorem x_in {a : Addr} {y : V} {u : Value} {o : Option V} {neg : Bool} {A : Around} {E : Value → Shared → Prop} {Q : Value → Shared → Prop} (hu : A.units + 1 < cLine) (I : Inv X pins σ H s) (g : DGz H a y o) (ry : RelV y u)
    (h : ∀ s', Inv X pins σ H s' → Q (.bool (if neg then !o.isSome else o.isSome)) s') : wpAny (model X.prog X.w) A (compareOp (if neg then .NotIn else .In) u (.ref a)) Q E s := by
  rcases g with (g | ⟨e, ey, eb, l⟩) | ⟨e, ey, l⟩
  · cases neg with
    | true => exact d_notIn hu I g ry h
    | false => exact d_in hu I g ry h
  · subst ey l
    cases (show u = Value.ref _ from ry)
    obtain ⟨hd, dd⟩ := dt_empty I.hok e
    cases neg with
    | true => exact wpAny_notIn_heap (tupleKind_room_in1 hu) (key_of I.hok eb) hd dd (h _ (I.tok _))
    | false => exact wpAny_in_heap (tupleKind_room_in1 hu) (key_of I.hok eb) hd dd (h _ (I.tok _))
  · subst ey l
    obtain ⟨hd, dd⟩ := dk_empty I.hok e
    cases neg with
    | true => exact wpAny_notIn_of (kV_is ry) hd dd.mapOf (h _ (I.tok _))
    | false => exact wpAny_in_of (kV_is ry) hd dd.mapOf (h _ (I.tok _))
/-- in, and not in -/
def rMem (K : PySem.W.Frag) (f : D → D → Option Bool) : R2 := fun x y H Q => ∃ c a b k, RV K c H a x ∧ RB K c H b y ∧ f a b = some k ∧ Q (.bl k) H
theorem op_mem (hu : X.A.units + 65 < cLine) (neg : Bool) : OpR X (compareOp (if neg then .NotIn else .In)) (rMem X.K fun a b => (inD a b).map fun k => if neg then !k else k) := by
  intro pins s σ H x y v u Q I rx ry h
  obtain ⟨c, a, b, k, ra, rb, e, q⟩ := h
  obtain ⟨k0, e0, ek⟩ := Option.map_eq_some_iff.mp e
  subst ek
  unfold inD at e0
  split at e0
  · split at e0
    · rename_i hz
      cases e0
      obtain ⟨f1, f2⟩ := Bool.and_eq_true_iff.mp hz
      obtain ⟨p, xs, rfl, h1, z1, r1⟩ := rb.tupAt
      obtain ⟨g1, g2⟩ := inV_any ra f1 r1 f2
      rw [← g2] at q
      cases neg with
      | true => exact op_notIn_seq pins s σ H _ _ v u Q I rx ry ⟨p, xs, rfl, .inr h1, ra.flat f1, g1, q⟩
      | false => exact op_in_seq pins s σ H _ _ v u Q I rx ry ⟨p, xs, rfl, .inr h1, ra.flat f1, g1, q⟩
    · cases e0
  · split at e0
    · rename_i hz
      cases e0
      obtain ⟨f1, f2⟩ := Bool.and_eq_true_iff.mp hz
      obtain ⟨p, xs, rfl, h1, z1, r1⟩ := rb.ktAt
      obtain ⟨g1, g2⟩ := inV_any ra f1 r1 f2
      rw [← g2] at q
      cases neg with
      | true => exact op_notIn_seq pins s σ H _ _ v u Q I rx ry ⟨p, xs, rfl, .inr h1, ra.flat f1, g1, q⟩
      | false => exact op_in_seq pins s σ H _ _ v u Q I rx ry ⟨p, xs, rfl, .inr h1, ra.flat f1, g1, q⟩
    · cases e0
  · split at e0
    · rename_i hz
      cases e0
      obtain ⟨f1, f2⟩ := Bool.and_eq_true_iff.mp hz
      obtain ⟨d1, w1⟩ := eqOk_dp (.rv ra) f1
      obtain ⟨d2, w2⟩ := eqOk_dp rb f2
      rw [← any_P] at q
      cases neg with
      | true => exact op_notInD hu pins s σ H _ _ v u Q I rx ry ⟨_, _, d1, d2, w1, w2, q⟩
      | false => exact op_inD hu pins s σ H _ _ v u Q I rx ry ⟨_, _, d1, d2, w1, w2, q⟩
    · cases e0
  · obtain ⟨o, e1, e2⟩ := Option.map_eq_some_iff.mp e0
    subst e2
    obtain ⟨ad, ov, rfl, g, ho⟩ := look_dg ra rb e1
    cases ry
    refine x_in (by omega) I g rx fun s' I' => ⟨.bl _, H, I', rfl, ?_⟩
    rcases ho with ⟨rfl, rfl⟩ | ⟨d, v', rfl, rfl, _⟩ <;> exact q
  · cases e0
    obtain ⟨rfl, _⟩ := ra.strAt
    obtain ⟨rfl, _⟩ := rb.strAt
    cases neg with
    | true => exact op_notin_str pins s σ H _ _ v u Q I rx ry ⟨_, _, rfl, rfl, q⟩
    | false => exact op_in_str pins s σ H _ _ v u Q I rx ry ⟨_, _, rfl, rfl, q⟩
  · cases e0
end
end Lk
set_option Elab.async false
set_option linter.all false
set_option maxRecDepth 100000
set_option maxHeartbeats 1000000
set_option autoImplicit false
namespace Lk
open PySem PySem.Spec PyProof.Rows L2 NdefX
/-! ### code and what it means -/
abbrev EE (X : Cx) (T : List NTab) (W : WX) (e : Expr) (m : M D) : Prop := PE X e (TM (bo X T) W (RV X.K) m)
abbrev EB (X : Cx) (T : List NTab) (W : WX) (e : Expr) (m : M D) : Prop := PE X e (TM (bo X T) W (RB X.K) m)
abbrev EA (X : Cx) (T : List NTab) (W : WX) (es : List Expr) (m : M (List D)) : Prop := PA X es (TM (bo X T) W (RVs X.K) m)
abbrev relB : Cg → Hp → Bool → Bool → Prop := fun _ _ a b => a = b
abbrev ET (X : Cx) (T : List NTab) (W : WX) (e : Expr) (m : M Bool) : Prop := PT X e (TM (bo X T) W relB m)
section
variable {X : Cx} {T : List NTab} {W : WX} {e a b c : Expr} {pos : Pos} {m ma mb : M D}
theorem pe_imp {t t' : TE} (h : PE X e t) (i : ∀ σ H Q, t' σ H Q → t σ H Q) : PE X e t' := ⟨fun pins s σ H Q I q => h.run pins s σ H Q I (i _ _ _ q)⟩
theorem pt_imp {t t' : TT} (h : PT X e t) (i : ∀ σ H Q, t' σ H Q → t σ H Q) : PT X e t' := ⟨fun pins s σ H Q I q => h.run pins s σ H Q I (i _ _ _ q)⟩
theorem pw_imp {t t' : TT} (h : PW X e t) (i : ∀ σ H Q, t' σ H Q → t σ H Q) : PW X e t' := ⟨fun w pins s σ H Q I q => h.run w pins s σ H Q I (i _ _ _ q)⟩
theorem pa_imp {es : List Expr} {t t' : TA} (h : PA X es t) (i : ∀ σ H Q, t' σ H Q → t σ H Q) : PA X es t' := ⟨fun p pins s σ H Q I q => h.run p pins s σ H Q I (i _ _ _ q)⟩
theorem PM.weak {α β : Type} {B : Bd} {r1 r2 : Cg → Hp → α → β → Prop} {e : En} {sl : List (Option Sl)} {σ : L2.St} {c : Cg} {H : Hp} {r : Option (R α)} {Q : β → Hp → Prop}
    (i : ∀ {c H a b}, r1 c H a b → r2 c H a b) (p : PM B W r2 e sl σ c H r Q) : PM B W r1 e sl σ c H r Q := by
  cases r with
  | none => exact p
  | some r =>
    cases r with
    | ok a S' => exact fun c' H' b R1 x1 rb => p c' H' b R1 x1 (i rb)
    | er x S' => exact p
theorem EE.toB (h : EE X T W e m) : EB X T W e m := pe_imp h fun σ H Q ⟨e, c, S, sl, R0, p⟩ => ⟨e, c, S, sl, R0, p.weak fun h => .rv h⟩
/-- a meaning that is reached at once -/
theorem TM.ret {α β : Type} {B : Bd} {r : Cg → Hp → α → β → Prop} {x : α} {σ : L2.St} {H : Hp} {Q : β → Hp → Prop} {y : β} (h : TM B W r (mRet x) σ H Q) (i : ∀ c, r c H x y) : Q y H := by
  obtain ⟨e, c, S, sl, R0, p⟩ := h
  exact p c H y R0 .refl (i c)
theorem ee_int {i : Int} {j : Nat} : EE X T W (.Constant (.int i) j pos) (mRet (.int i)) := pe_imp pe_int fun σ H Q h => h.ret fun _ => .int i
theorem ee_bl {k : Bool} {j : Nat} : EE X T W (.Constant (.bool k) j pos) (mRet (.bl k)) := pe_imp pe_bl fun σ H Q h => h.ret fun _ => .bl k
theorem ee_non {j : Nat} : EE X T W (.Constant .none j pos) (mRet .non) := pe_imp pe_non fun σ H Q h => h.ret fun _ => .non
theorem ee_str {x : Str} {j : Nat} (o : okS x) : EE X T W (.Constant (.str x) j pos) (mRet (.str x)) := pe_imp pe_str fun σ H Q h => h.ret fun _ => .str o
/-- a name -/
def mVar (i : Nat) : M D := fun v S => match v.sl[i]? with
  | some (some (.val d)) => some (.ok d S)
  | _ => none
def Ob.d : Ob → Option D
  | .lst ds => some (.lst ds)
  | .dct kvs => some (.dct kvs)
  | .ins _ _ => none
def mBor (i : Nat) : M D := fun v S => match v.sl[i]? with
  | some (some (.val d)) => some (.ok d S)
  | some (some (.own o)) => match o.d with
    | some d => some (.ok d S)
    | none => none
  | _ => none
theorem ee_var {i : Nat} {x : Str} (hN : X.N[i]? = some x) (hv : Vis X.env.scope x) (hd : (x == ("__debug__" : Str)) = false) (hcd : (x == ("__classdict__" : Str)) = false) : EE X T W (.Name x pos) (mVar i) :=
  pe_imp (pe_var hN hv hd hcd) fun σ H Q ⟨e, c, S, sl, R0, p⟩ => by
    unfold mVar at p
    split at p
    · rename_i d hq
      obtain ⟨v, h1, h2⟩ := R0.sl.at_ i _ hq
      exact ⟨v, h1, p c H v R0 .refl h2⟩
    · exact p.elim
theorem eb_var {i : Nat} {x : Str} (hN : X.N[i]? = some x) (hv : Vis X.env.scope x) (hd : (x == ("__debug__" : Str)) = false) (hcd : (x == ("__classdict__" : Str)) = false) : EB X T W (.Name x pos) (mBor i) :=
  pe_imp (pe_var hN hv hd hcd) fun σ H Q ⟨e, c, S, sl, R0, p⟩ => by
    unfold mBor at p
    split at p
    · rename_i d hq
      obtain ⟨v, h1, h2⟩ := R0.sl.at_ i _ hq
      exact ⟨v, h1, p c H v R0 .refl (.rv h2)⟩
    · rename_i o hq
      obtain ⟨v, h1, p0, rfl, nf, nr, nh, ob⟩ := R0.sl.at_ i _ hq
      refine ⟨_, h1, ?_⟩
      cases o with
      | lst ds =>
        obtain ⟨xs, e1, z, r⟩ := ob
        exact p c H _ R0 .refl (.lst nr e1 z r)
      | dct kvs =>
        rcases ob with ⟨es, e1, z, r⟩ | ⟨es, e1, z, r⟩
        · exact p c H _ R0 .refl (.dK nr e1 z r)
        · exact p c H _ R0 .refl (.dT nr e1 z r)
      | ins x fs => exact p.elim
    · exact p.elim
/-- a name of the module -/
structure GloD (B : Bd) (x : Str) (d : D) : Prop where
  at_ : ∃ v u, B.mg x = some u ∧ RelV v u ∧ ∀ c H, RB B.K c H d v
structure GloV (B : Bd) (x : Str) (d : D) : Prop where
  at_ : ∃ v u, B.mg x = some u ∧ RelV v u ∧ ∀ c H, RV B.K c H d v
theorem eb_glob {x : Str} {d : D} (g : GloD (bo X T) x d) (hg : Gl X x) (hd : (x == ("__debug__" : Str)) = false) : EB X T W (.Name x pos) (mRet d) := by
  obtain ⟨v, u, h1, h2, h3⟩ := g.at_
  exact pe_imp (pe_glob hg h1 h2 hd) fun σ H Q h => h.ret fun c => h3 c H
theorem ee_glob {x : Str} {d : D} (g : GloV (bo X T) x d) (hg : Gl X x) (hd : (x == ("__debug__" : Str)) = false) : EE X T W (.Name x pos) (mRet d) := by
  obtain ⟨v, u, h1, h2, h3⟩ := g.at_
  exact pe_imp (pe_glob hg h1 h2 hd) fun σ H Q h => h.ret fun c => h3 c H
/-! ### operators -/
def mOp2 (f : D → D → Option D) (ma mb : M D) : M D := mBind ma fun a => mBind mb fun b => mOpt (f a b)
def mCmp (f : D → D → Option Bool) (ma mb : M D) : M D := mBind ma fun a => mBind mb fun b => mOpt ((f a b).map .bl)
def mCmpT (f : D → D → Option Bool) (ma mb : M D) : M Bool := mBind ma fun a => mBind mb fun b => mOpt (f a b)
theorem PM.opt {α β : Type} {B : Bd} {r : Cg → Hp → α → β → Prop} {e : En} {sl : List (Option Sl)} {σ : L2.St} {c : Cg} {H : Hp} {o : Option α} {v : Ev} {S : Sto} {Q : β → Hp → Prop} (R0 : Rp B e c S sl σ H)
    (p : PM B W r e sl σ c H (mOpt o v S) Q) : ∃ a, o = some a ∧ ∀ c' H' b, ExtP c H c' H' → r c' H' a b → Q b H' := by
  unfold mOpt at p
  cases o with
  | none => exact p.elim
  | some a => exact ⟨a, rfl, fun c' H' b x rb => p c' H' b (R0.toP x) x.ext rb⟩
theorem ee_op2 {op : Operator} {f : D → D → Option D} (ho : OpR X (binaryOp op) (rOp2 X.K f)) (ha : EE X T W a ma) (hb : EE X T W b mb) : EE X T W (.BinOp a op b pos) (mOp2 f ma mb) :=
  pe_imp (pe_op ho ha hb) fun σ H Q h => by
    obtain ⟨e, c, S, sl, R0, p⟩ := TM.bind2 (r1 := RV X.K) (r1' := RV X.K) (fun k h => h.keep k) h
    refine ⟨e, c, S, sl, R0, p.imp fun b1 H1 ⟨e, c, S, sl, R1, p1⟩ => ⟨e, c, S, sl, R1, p1.imp fun b2 H2 ⟨e, c, S, sl, a, a', R2, ra, rb, p2⟩ => ?_⟩⟩
    obtain ⟨d, hd, k⟩ := p2.opt R2
    exact ⟨c, a, a', d, ra, rb, hd, k⟩
theorem TM.bind2B {α β γ δ : Type} {B : Bd} {r1' : Cg → Hp → α → β → Prop} {r2 : Cg → Hp → γ → δ → Prop} {m : M D} {m' : M α} {f : D → α → M γ} {σ : L2.St} {H : Hp} {Q : δ → Hp → Prop}
    (h : TM B W r2 (mBind m fun a => mBind m' fun a' => f a a') σ H Q) : TM B W (RB B.K) m σ H fun b H1 => TM B W r1' m' σ H1 fun b' H2 =>
      ∃ e c S sl a a', Rp B e c S sl σ H2 ∧ RB B.K c H2 a b ∧ r1' c H2 a' b' ∧ PM B W r2 e sl σ c H2 (f a a' ⟨sl, e.κs⟩ S) Q := by
  obtain ⟨e, c, S, sl, R0, p⟩ := h
  exact ⟨e, c, S, sl, R0, p.bind.imp fun b H1 ⟨c1, S1, a, R1, _, ra, p1⟩ => ⟨e, c1, S1, sl, R1, p1.bind.imp fun b2 H2 ⟨c2, S2, a2, R2, x2, ra2, p2⟩ => ⟨e, c2, S2, sl, a, a2, R2, ra.ext x2 R1.st, ra2, p2⟩⟩⟩
theorem ee_cmp {op : CmpOp} {f : D → D → Option Bool} (ho : OpR X (compareOp op) (rCmp X.K f)) (ha : EB X T W a ma) (hb : EB X T W b mb) (hm : behindInMarks op b = false) : EE X T W (.Compare a [op] [b] pos) (mCmp f ma mb) :=
  pe_imp (pe_cmpR ho ha hb hm) fun σ H Q h => by
    obtain ⟨e, c, S, sl, R0, p⟩ := TM.bind2B (r1' := RB X.K) h
    refine ⟨e, c, S, sl, R0, p.imp fun b1 H1 ⟨e, c, S, sl, R1, p1⟩ => ⟨e, c, S, sl, R1, p1.imp fun b2 H2 ⟨e, c, S, sl, a, a', R2, ra, rb, p2⟩ => ?_⟩⟩
    obtain ⟨d, hd, k⟩ := p2.opt R2
    obtain ⟨k0, h1, h2⟩ := Option.map_eq_some_iff.mp hd
    subst h2
    exact ⟨c, a, a', k0, ra, rb, h1, k c H2 _ .refl (.bl k0)⟩
theorem et_cmp {op : CmpOp} {f : D → D → Option Bool} (ho : OpR X (compareOp op) (rCmp X.K f)) (ha : EB X T W a ma) (hb : EB X T W b mb) (hm : behindInMarks op b = false) : ET X T W (.Compare a [op] [b] pos) (mCmpT f ma mb) :=
  pt_imp (pt_cmpR ho ha hb hm) fun σ H Q h => by
    obtain ⟨e, c, S, sl, R0, p⟩ := TM.bind2B (r1' := RB X.K) h
    refine ⟨e, c, S, sl, R0, p.imp fun b1 H1 ⟨e, c, S, sl, R1, p1⟩ => ⟨e, c, S, sl, R1, p1.imp fun b2 H2 ⟨e, c, S, sl, a, a', R2, ra, rb, p2⟩ => ?_⟩⟩
    obtain ⟨d, hd, k⟩ := p2.opt R2
    exact ⟨c, a, a', d, ra, rb, hd, d, rfl, k c H2 _ .refl rfl⟩
/-- in, not in -/
theorem ee_mem {op : CmpOp} {f : D → D → Option Bool} (ho : OpR X (compareOp op) (rMem X.K f)) (ha : EE X T W a ma) (hb : EB X T W b mb) (hm : behindInMarks op b = false) : EE X T W (.Compare a [op] [b] pos) (mCmp f ma mb) :=
  pe_imp (pe_cmpR ho ha hb hm) fun σ H Q h => by
    obtain ⟨e, c, S, sl, R0, p⟩ := TM.bind2 (r1 := RV X.K) (r1' := RB X.K) (fun k h => h.keep k) h
    refine ⟨e, c, S, sl, R0, p.imp fun b1 H1 ⟨e, c, S, sl, R1, p1⟩ => ⟨e, c, S, sl, R1, p1.imp fun b2 H2 ⟨e, c, S, sl, a, a', R2, ra, rb, p2⟩ => ?_⟩⟩
    obtain ⟨d, hd, k⟩ := p2.opt R2
    obtain ⟨k0, h1, h2⟩ := Option.map_eq_some_iff.mp hd
    subst h2
    exact ⟨c, a, a', k0, ra, rb, h1, k c H2 _ .refl (.bl k0)⟩
theorem et_mem {op : CmpOp} {f : D → D → Option Bool} (ho : OpR X (compareOp op) (rMem X.K f)) (ha : EE X T W a ma) (hb : EB X T W b mb) (hm : behindInMarks op b = false) : ET X T W (.Compare a [op] [b] pos) (mCmpT f ma mb) :=
  pt_imp (pt_cmpR ho ha hb hm) fun σ H Q h => by
    obtain ⟨e, c, S, sl, R0, p⟩ := TM.bind2 (r1 := RV X.K) (r1' := RB X.K) (fun k h => h.keep k) h
    refine ⟨e, c, S, sl, R0, p.imp fun b1 H1 ⟨e, c, S, sl, R1, p1⟩ => ⟨e, c, S, sl, R1, p1.imp fun b2 H2 ⟨e, c, S, sl, a, a', R2, ra, rb, p2⟩ => ?_⟩⟩
    obtain ⟨d, hd, k⟩ := p2.opt R2
    exact ⟨c, a, a', d, ra, rb, hd, d, rfl, k c H2 _ .refl rfl⟩
/-- is None, is not None -/
def D.isNon : D → Bool
  | .non => true
  | _ => false
theorem RB.isNon {K : PySem.W.Frag} {c : Cg} {H : Hp} {d : D} {v : V} (h : RB K c H d v) : decide (v = .non) = d.isNon := by
  cases h with
  | rv h => cases h <;> rfl
  | tup => rfl
  | lst => rfl
  | dK => rfl
  | dT => rfl
def mIsN (k : Bool) (ma : M D) : M D := mBind ma fun a => mRet (.bl (a.isNon == k))
def mIsNT (k : Bool) (ma : M D) : M Bool := mBind ma fun a => mRet (a.isNon == k)
theorem PM.ret {α β : Type} {B : Bd} {r : Cg → Hp → α → β → Prop} {e : En} {sl : List (Option Sl)} {σ : L2.St} {c : Cg} {H : Hp} {a : α} {b : β} {S : Sto} {Q : β → Hp → Prop} (R0 : Rp B e c S sl σ H)
    (p : PM B W r e sl σ c H (some (.ok a S)) Q) (h : r c H a b) : Q b H := p c H b R0 .refl h
theorem ee_isN {j : Nat} {p' : Pos} (ha : EB X T W a ma) : EE X T W (.Compare a [.Is] [.Constant .none j p'] pos) (mIsN true ma) :=
  pe_imp (pe_cmp (pc_isN ha)) fun σ H Q h => by
    obtain ⟨e, c, S, sl, R0, p⟩ := TM.bind (r1 := RB X.K) h
    refine ⟨e, c, S, sl, R0, p.imp fun b1 H1 ⟨e, c, S, sl, a, R1, ra, p1⟩ => ?_⟩
    rw [ra.isNon]
    exact p1.ret R1 (by cases a.isNon <;> exact .bl _)
theorem ee_notN {j : Nat} {p' : Pos} (ha : EB X T W a ma) : EE X T W (.Compare a [.IsNot] [.Constant .none j p'] pos) (mIsN false ma) :=
  pe_imp (pe_cmp (pc_notN ha)) fun σ H Q h => by
    obtain ⟨e, c, S, sl, R0, p⟩ := TM.bind (r1 := RB X.K) h
    refine ⟨e, c, S, sl, R0, p.imp fun b1 H1 ⟨e, c, S, sl, a, R1, ra, p1⟩ => ?_⟩
    rw [ra.isNon]
    exact p1.ret R1 (by cases a.isNon <;> exact .bl _)
theorem et_isN {j : Nat} {p' : Pos} (ha : EB X T W a ma) : ET X T W (.Compare a [.Is] [.Constant .none j p'] pos) (mIsNT true ma) :=
  pt_imp (pt_cmp (pc_isN ha)) fun σ H Q h => by
    obtain ⟨e, c, S, sl, R0, p⟩ := TM.bind (r1 := RB X.K) h
    refine ⟨e, c, S, sl, R0, p.imp fun b1 H1 ⟨e, c, S, sl, a, R1, ra, p1⟩ => ?_⟩
    rw [ra.isNon]
    exact ⟨_, rfl, p1.ret R1 (by cases a.isNon <;> rfl)⟩
theorem et_notN {j : Nat} {p' : Pos} (ha : EB X T W a ma) : ET X T W (.Compare a [.IsNot] [.Constant .none j p'] pos) (mIsNT false ma) :=
  pt_imp (pt_cmp (pc_notN ha)) fun σ H Q h => by
    obtain ⟨e, c, S, sl, R0, p⟩ := TM.bind (r1 := RB X.K) h
    refine ⟨e, c, S, sl, R0, p.imp fun b1 H1 ⟨e, c, S, sl, a, R1, ra, p1⟩ => ?_⟩
    rw [ra.isNon]
    exact ⟨_, rfl, p1.ret R1 (by cases a.isNon <;> rfl)⟩
end
end Lk
set_option Elab.async false
set_option linter.all false
set_option maxRecDepth 100000
set_option maxHeartbeats 1000000
set_option autoImplicit false
namespace Lk
open PySem PySem.Spec PyProof.Rows L2 NdefX
/-! ### truth -/
def truthD : D → Option Bool
  | .non => some false
  | .bl b => some b
  | .int i => some (i != 0)
  | .str x => some ((x.length : Int) != 0)
  | .tup ds => some (!ds.isEmpty)
  | .lst ds => some (!ds.isEmpty)
  | _ => none
theorem RVs.isEmpty {K : PySem.W.Frag} {c : Cg} {H : Hp} {ds : List D} {vs : List V} (r : RVs K c H ds vs) : (!ds.isEmpty) = !vs.isEmpty := by cases r <;> rfl
theorem truV {K : PySem.W.Frag} {c : Cg} {H : Hp} {d : D} {v : V} {k : Bool} (h : RB K c H d v) (e : truthD d = some k) : TruV K v H k := by
  cases d <;> simp only [truthD, Option.some.injEq, reduceCtorEq] at e <;> subst e
  · rw [h.nonAt]; exact rfl
  · rw [h.blAt]; exact rfl
  · rw [h.intAt]; exact rfl
  · obtain ⟨rfl, o⟩ := h.strAt; exact ⟨o.1, rfl⟩
  · obtain ⟨p, xs, rfl, h1, z, r⟩ := h.tupAt
    exact .inr (.inl ⟨xs, h1, r.isEmpty⟩)
  · obtain ⟨p, xs, rfl, h1, z, r⟩ := h.lstAt
    exact .inl ⟨xs, .inl h1, r.isEmpty⟩
section
variable {X : Cx} {T : List NTab} {W : WX} {e a b c : Expr} {es rest : List Expr} {pos : Pos} {m ma mb mc : M D} {mt mu : M Bool} {ms : M (List D)}
def mTru (m : M D) : M Bool := mBind m fun a => mOpt (truthD a)
theorem et_truth (ha : EB X T W a ma) (he : ∀ whole, isTrue a X.env whole = (do let v ← whole; standAt a.pos; holding [v] (truthy v))) : ET X T W a (mTru ma) :=
  pt_imp (pt_truth ha he) fun σ H Q h => by
    obtain ⟨e, c, S, sl, R0, p⟩ := TM.bind (r1 := RB X.K) h
    refine ⟨e, c, S, sl, R0, p.imp fun b1 H1 ⟨e, c, S, sl, a, R1, ra, p1⟩ => ?_⟩
    obtain ⟨d, hd, k⟩ := p1.opt R1
    exact ⟨d, truV ra hd, k c H1 _ .refl rfl⟩
/-- and, or as values -/
def mAnd (ma mb : M D) : M D := mBind ma fun a => mBind (mOpt (truthD a)) fun k => if k then mb else mRet a
def mOr (ma mb : M D) : M D := mBind ma fun a => mBind (mOpt (truthD a)) fun k => if k then mRet a else mb
def mNot (ma : M D) : M D := mBind ma fun a => mBind (mOpt (truthD a)) fun k => mRet (.bl (!k))
theorem PM.bindO {α γ δ : Type} {B : Bd} {r2 : Cg → Hp → γ → δ → Prop} {e : En} {sl : List (Option Sl)} {σ : L2.St} {c : Cg} {H : Hp} {o : Option α} {f : α → M γ} {v : Ev} {S : Sto} {Q : δ → Hp → Prop}
    (p : PM B W r2 e sl σ c H (mBind (mOpt o) f v S) Q) : ∃ a, o = some a ∧ PM B W r2 e sl σ c H (f a v S) Q := by
  cases o with
  | none => exact p.elim
  | some a => exact ⟨a, rfl, p⟩
theorem ee_and (ha : EE X T W a ma) (hb : EE X T W (.BoolOp .And (b :: rest) pos) mb) : EE X T W (.BoolOp .And (a :: b :: rest) pos) (mAnd ma mb) :=
  pe_imp (pe_andT ha hb) fun σ H Q h => by
    obtain ⟨e, c, S, sl, R0, p⟩ := TM.bind (r1 := RV X.K) h
    refine ⟨e, c, S, sl, R0, p.imp fun b1 H1 ⟨e, c, S, sl, a, R1, ra, p1⟩ => ?_⟩
    obtain ⟨k, hk, p2⟩ := p1.bindO
    refine ⟨k, truV (.rv ra) hk, ?_⟩
    cases k with
    | true => exact ⟨e, c, S, sl, R1, p2⟩
    | false => exact p2.ret R1 ra
theorem ee_or (ha : EE X T W a ma) (hb : EE X T W (.BoolOp .Or (b :: rest) pos) mb) : EE X T W (.BoolOp .Or (a :: b :: rest) pos) (mOr ma mb) :=
  pe_imp (pe_orT ha hb) fun σ H Q h => by
    obtain ⟨e, c, S, sl, R0, p⟩ := TM.bind (r1 := RV X.K) h
    refine ⟨e, c, S, sl, R0, p.imp fun b1 H1 ⟨e, c, S, sl, a, R1, ra, p1⟩ => ?_⟩
    obtain ⟨k, hk, p2⟩ := p1.bindO
    refine ⟨k, truV (.rv ra) hk, ?_⟩
    cases k with
    | true => exact p2.ret R1 ra
    | false => exact ⟨e, c, S, sl, R1, p2⟩
theorem ee_one {op : PySem.BoolOp} (ha : EE X T W a ma) : EE X T W (.BoolOp op [a] pos) ma := pe_one ha
theorem ee_not (ha : EB X T W a ma) : EE X T W (.UnaryOp .Not a pos) (mNot ma) :=
  pe_imp (pe_notT ha) fun σ H Q h => by
    obtain ⟨e, c, S, sl, R0, p⟩ := TM.bind (r1 := RB X.K) h
    refine ⟨e, c, S, sl, R0, p.imp fun b1 H1 ⟨e, c, S, sl, a, R1, ra, p1⟩ => ?_⟩
    obtain ⟨k, hk, p2⟩ := p1.bindO
    exact ⟨k, truV ra hk, p2.ret R1 (.bl _)⟩
/-- tests -/
abbrev EW (X : Cx) (T : List NTab) (W : WX) (e : Expr) (m : M Bool) : Prop := PW X e (TM (bo X T) W relB m)
def mAndT (mt mu : M Bool) : M Bool := mBind mt fun k => if k then mu else mRet false
def mOrT (mt mu : M Bool) : M Bool := mBind mt fun k => if k then mRet true else mu
def mNotT (mt : M Bool) : M Bool := mBind mt fun k => mRet (!k)
theorem ew_and1 (ha : ET X T W a mt) : EW X T W (.BoolOp .And [a] pos) mt := pw_and1 ha
theorem ew_or1 (ha : ET X T W a mt) : EW X T W (.BoolOp .Or [a] pos) mt := pw_or1 ha
theorem ew_and (ha : ET X T W a mt) (hb : EW X T W (.BoolOp .And (b :: rest) pos) mu) : EW X T W (.BoolOp .And (a :: b :: rest) pos) (mAndT mt mu) :=
  pw_imp (pw_and ha hb) fun σ H Q h => by
    obtain ⟨e, c, S, sl, R0, p⟩ := TM.bind (r1 := relB) h
    refine ⟨e, c, S, sl, R0, p.imp fun b1 H1 ⟨e, c, S, sl, a, R1, ra, p1⟩ => ?_⟩
    match a, ra, p1 with
    | true, rfl, p1 => exact ⟨e, c, S, sl, R1, p1⟩
    | false, rfl, p1 => exact p1.ret R1 rfl
theorem ew_or (ha : ET X T W a mt) (hb : EW X T W (.BoolOp .Or (b :: rest) pos) mu) : EW X T W (.BoolOp .Or (a :: b :: rest) pos) (mOrT mt mu) :=
  pw_imp (pw_or ha hb) fun σ H Q h => by
    obtain ⟨e, c, S, sl, R0, p⟩ := TM.bind (r1 := relB) h
    refine ⟨e, c, S, sl, R0, p.imp fun b1 H1 ⟨e, c, S, sl, a, R1, ra, p1⟩ => ?_⟩
    match a, ra, p1 with
    | true, rfl, p1 => exact p1.ret R1 rfl
    | false, rfl, p1 => exact ⟨e, c, S, sl, R1, p1⟩
theorem et_not (ha : ET X T W a mt) : ET X T W (.UnaryOp .Not a pos) (mNotT mt) :=
  pt_imp (pt_not ha) fun σ H Q h => by
    obtain ⟨e, c, S, sl, R0, p⟩ := TM.bind (r1 := relB) h
    refine ⟨e, c, S, sl, R0, p.imp fun b1 H1 ⟨e, c, S, sl, a, R1, ra, p1⟩ => ?_⟩
    match a, ra, p1 with
    | _, rfl, p1 => exact p1.ret R1 rfl
/-- a if t else b -/
def mIf {α : Type} (mt : M Bool) (ma mb : M α) : M α := mBind mt fun k => if k then ma else mb
theorem ee_if (hc : ET X T W c mt) (ha : EE X T W a ma) (hb : EE X T W b mb) : EE X T W (.IfExp c a b pos) (mIf mt ma mb) :=
  pe_imp (pe_ifExp hc ha hb) fun σ H Q h => by
    obtain ⟨e, c, S, sl, R0, p⟩ := TM.bind (r1 := relB) h
    refine ⟨e, c, S, sl, R0, p.imp fun b1 H1 ⟨e, c, S, sl, a, R1, ra, p1⟩ => ?_⟩
    match a, ra, p1 with
    | true, rfl, p1 => exact ⟨e, c, S, sl, R1, p1⟩
    | false, rfl, p1 => exact ⟨e, c, S, sl, R1, p1⟩
/-- a chain of two comparisons -/
def mCh (f g : D → D → Option Bool) (ma mb mc : M D) : M Bool := mBind ma fun a => mBind mb fun b => mBind (mOpt (f a b)) fun k => if k then mBind mc fun c => mOpt (g b c) else mRet false
theorem et_chain {op op' : CmpOp} {f g : D → D → Option Bool} (ho : OpR X (compareOp op) (rCmp X.K f)) (ho' : OpR X (compareOp op') (rCmp X.K g)) (ha : EB X T W a ma) (hb : EB X T W b mb) (hc : EB X T W c mc)
    (hm : lastMarks [op, op'] [b, c] = false) : ET X T W (.Compare a [op, op'] [b, c] pos) (mCh f g ma mb mc) :=
  pt_imp (pt_chain ho ho' ha hb hc hm) fun σ H Q h => by
    obtain ⟨e, c, S, sl, R0, p⟩ := TM.bind2B (r1' := RB X.K) h
    refine ⟨e, c, S, sl, R0, p.imp fun b1 H1 ⟨e, c, S, sl, R1, p1⟩ => ⟨e, c, S, sl, R1, p1.imp fun b2 H2 ⟨e, c, S, sl, a, a', R2, ra, rb, p2⟩ => ?_⟩⟩
    obtain ⟨k, hk, p3⟩ := p2.bindO
    refine ⟨c, a, a', k, ra, rb, hk, k, rfl, ?_⟩
    cases k with
    | false => exact ⟨false, rfl, p3.ret R2 rfl⟩
    | true =>
      refine ⟨e, c, S, sl, R2, (PM.bind (r1 := RB X.K) p3).imp fun b3 H3 ⟨c3, S3, a3, R3, x3, ra3, p4⟩ => ?_⟩
      obtain ⟨d, hd, k⟩ := p4.opt R3
      exact ⟨c3, a', a3, d, rb.ext x3 R2.st, ra3, hd, d, rfl, k c3 H3 _ .refl rfl⟩
/-! ### argument lists, displays -/
def mNil : M (List D) := mRet []
def mCons (ma : M D) (ms : M (List D)) : M (List D) := mBind ma fun a => mBind ms fun as => mRet (a :: as)
/-- *e -/
def itemsD : D → Option (List D)
  | .tup ds => some ds
  | .lst ds => some ds
  | _ => none
def mStar (ma : M D) (ms : M (List D)) : M (List D) := mBind (mBind ma fun a => mOpt (itemsD a)) fun as => mBind ms fun bs => mRet (as ++ bs)
theorem ea_nil : EA X T W [] mNil := pa_imp pa_nil fun σ H Q h => h.ret fun _ => .nil
theorem ea_cons (ha : EE X T W a ma) (hr : EA X T W es ms) (hs : starEach (a :: es) X.env = (false, eval a X.env) :: starEach es X.env) : EA X T W (a :: es) (mCons ma ms) :=
  pa_imp (pa_cons ha hr hs) fun σ H Q h => by
    obtain ⟨e, c, S, sl, R0, p⟩ := TM.bind2 (r1 := RV X.K) (r1' := RVs X.K) (fun k h => h.keep k) h
    exact ⟨e, c, S, sl, R0, p.imp fun b1 H1 ⟨e, c, S, sl, R1, p1⟩ => ⟨e, c, S, sl, R1, p1.imp fun b2 H2 ⟨e, c, S, sl, a, a', R2, ra, rb, p2⟩ => p2.ret R2 (.cons ra rb)⟩⟩
def mTup (ms : M (List D)) : M D := mBind ms fun ds => if ds.length ≤ sizeLine then mRet (.tup ds) else mOpt none
def mLst (ms : M (List D)) : M D := mBind ms fun ds => if ds.length ≤ sizeLine then mRet (.lst ds) else mOpt none
theorem PM.done {B : Bd} {e : En} {sl : List (Option Sl)} {σ : L2.St} {c : Cg} {H : Hp} {d : D} {S : Sto} {Q : VK} (R0 : Rp B e c S sl σ H) (p : PM B W (RV B.K) e sl σ c H (some (.ok d S)) Q) : Done B.K c H d Q :=
  fun c' H' v x r => p c' H' v (R0.toP x) x.ext r
theorem ee_tup {k : Nat} (h : EA X T W es ms) : EE X T W (.Tuple es k pos) (mTup ms) :=
  pe_imp (pe_tup h) fun σ H Q h => by
    obtain ⟨e, c, S, sl, R0, p⟩ := TM.bind (r1 := RVs X.K) h
    refine ⟨e, c, S, sl, R0, p.imp fun b1 H1 ⟨e, c, S, sl, a, R1, ra, p1⟩ => ?_⟩
    by_cases z : a.length ≤ sizeLine
    · rw [if_pos z] at p1
      have z' : b1.length ≤ sizeLine := by rw [← ra.length]; exact z
      exact ⟨z', fun q hq => (p1.done R1).tup ra z' hq⟩
    · rw [if_neg z] at p1
      exact p1.elim
theorem ee_lst (h : EA X T W es ms) : EE X T W (.List es pos) (mLst ms) :=
  pe_imp (pe_lst h) fun σ H Q h => by
    obtain ⟨e, c, S, sl, R0, p⟩ := TM.bind (r1 := RVs X.K) h
    refine ⟨e, c, S, sl, R0, p.imp fun b1 H1 ⟨e, c, S, sl, a, R1, ra, p1⟩ => ?_⟩
    by_cases z : a.length ≤ sizeLine
    · rw [if_pos z] at p1
      have z' : b1.length ≤ sizeLine := by rw [← ra.length]; exact z
      exact ⟨z', fun q hq => (p1.done R1).lst ra z' hq⟩
    · rw [if_neg z] at p1
      exact p1.elim
/-! ### subscripts -/
def ixD : D → D → Option D
  | .tup xs, .int i => atI xs i
  | .lst xs, .int i => atI xs i
  | .klst xs, .int i => atI xs i
  | .ktup xs, .int i => atI xs i
  | .str z, .int i => (atI z.cps.toList i).map fun c => .str ⟨#[c]⟩
  | .dct kvs, k => match lookD kvs k with
    | some (some d) => some d
    | _ => none
  | _, _ => none
def rIx2 (K : PySem.W.Frag) (f : D → D → Option D) : R2 := fun x y H Q => ∃ c a b d, RB K c H a x ∧ RV K c H b y ∧ f a b = some d ∧ ∀ v, RV K c H d v → Q v H
theorem RVs.atI {K : PySem.W.Frag} {c : Cg} {H : Hp} {ds : List D} {vs : List V} (r : RVs K c H ds vs) {i : Int} {d : D} (h : atI ds i = some d) : ∃ v, L2.atI vs i = some v ∧ RV K c H d v := by
  unfold L2.atI at h ⊢
  obtain ⟨j, h1, h2⟩ := Option.bind_eq_some_iff.mp h
  obtain ⟨v, e, rv⟩ := r.get h2
  exact ⟨v, by rw [← r.length, h1]; exact e, rv⟩
theorem ixN_lt {n : Nat} {i : Int} {j : Nat} (h : ixN n i = some j) : j < n := (ixN_seq h).2.1
theorem okS.sign {z : Str} (o : okS z) {i : Int} {x : Nat} (h : atI z.cps.toList i = some x) : okS ⟨#[x]⟩ := by
  unfold L2.atI at h
  obtain ⟨j, h1, h2⟩ := Option.bind_eq_some_iff.mp h
  refine ⟨by rw [sizeLine_eq]; show 1 ≤ _; decide, ?_⟩
  have hm : x ∈ z.cps.toList := List.mem_of_getElem? h2
  have hq : z.cps.all (fun c => decide (c < 0x110000)) = true := o.2
  have := Array.all_eq_true_iff_forall_mem.mp hq x (by simpa using hm)
  show (#[x] : Array Nat).all _ = true
  simpa using this
theorem ix_d (hu : X.A.units + 1 < cLine) : IxR X (rIx2 X.K ixD) := by
  intro value slice pins s σ H x y v u Q I rx ry h hs
  obtain ⟨c, a, b, d, ra, rb, e, k⟩ := h
  unfold ixD at e
  split at e
  · obtain ⟨p, xs, rfl, h1, z, r⟩ := ra.tupAt
    obtain rfl := rb.intAt
    obtain ⟨w, e1, rw'⟩ := r.atI e
    exact ix_tup value slice pins s σ H _ _ v u Q I rx ry ⟨p, xs, _, w, rfl, rfl, h1, e1, k w rw'⟩ hs
  · obtain ⟨p, xs, rfl, h1, z, r⟩ := ra.lstAt
    obtain rfl := rb.intAt
    obtain ⟨w, e1, rw'⟩ := r.atI e
    exact ix_list value slice pins s σ H _ _ v u Q I rx ry ⟨p, xs, _, w, rfl, rfl, .inl h1, e1, k w rw'⟩ hs
  · obtain ⟨p, xs, rfl, h1, z, r⟩ := ra.klAt
    obtain rfl := rb.intAt
    obtain ⟨w, e1, rw'⟩ := r.atI e
    exact ix_list value slice pins s σ H _ _ v u Q I rx ry ⟨p, xs, _, w, rfl, rfl, h1, e1, k w rw'⟩ hs
  · obtain ⟨p, xs, rfl, h1, z, r⟩ := ra.ktAt
    obtain rfl := rb.intAt
    obtain ⟨w, e1, rw'⟩ := r.atI e
    exact ix_tup value slice pins s σ H _ _ v u Q I rx ry ⟨p, xs, _, w, rfl, rfl, h1, e1, k w rw'⟩ hs
  · obtain ⟨rfl, o⟩ := ra.strAt
    obtain rfl := rb.intAt
    obtain ⟨c0, e1, e2⟩ := Option.map_eq_some_iff.mp e
    subst e2
    exact ix_str value slice pins s σ H _ _ v u Q I rx ry ⟨_, _, c0, rfl, rfl, o.1, e1, k _ (.str (o.sign e1))⟩ hs
  · split at e
    · rename_i d' hl
      cases e
      obtain ⟨ad, ov, rfl, g, ho⟩ := look_dg rb ra hl
      rcases ho with ⟨q, _⟩ | ⟨d2, v2, e1, rfl, rv⟩
      · cases q
      · cases e1
        cases rx
        rcases g with (g | ⟨_, _, _, q⟩) | ⟨_, _, q⟩
        · exact tail_any (dict_typeIs I g) PySem.F.slot_dict_getitem.lookup (d_getItem hu I g ry fun w' s3 I3 rw' => ⟨v2, H, I3, rw', k v2 rv⟩) hs
        · cases q
        · cases q
    · cases e
  · cases e
def mIx (ma mb : M D) : M D := mBind ma fun a => mBind mb fun b => mOpt (ixD a b)
theorem ee_ix (hu : X.A.units + 1 < cLine) (ha : EB X T W a ma) (hb : EE X T W b mb) (hs : PlainIx b) : EE X T W (.Subscript a b pos) (mIx ma mb) :=
  pe_imp (pe_ix (ix_d hu) ha hb hs) fun σ H Q h => by
    obtain ⟨e, c, S, sl, R0, p⟩ := TM.bind2B (r1' := RV X.K) h
    refine ⟨e, c, S, sl, R0, p.imp fun b1 H1 ⟨e, c, S, sl, R1, p1⟩ => ⟨e, c, S, sl, R1, p1.imp fun b2 H2 ⟨e, c, S, sl, a, a', R2, ra, rb, p2⟩ => ?_⟩⟩
    obtain ⟨d, hd, k⟩ := p2.opt R2
    exact ⟨c, a, a', d, ra, rb, hd, fun v rv => k c H2 v .refl rv⟩
end
end Lk
set_option Elab.async false
set_option linter.all false
set_option maxRecDepth 100000
set_option maxHeartbeats 1000000
set_option autoImplicit false
namespace Lk
open PySem PySem.Spec PyProof.Rows L2 NdefX
/-! ### slices -/
def cutL {α : Type} (xs : List α) (lo hi : Option Int) : List α := (xs.drop (HT.sIx xs.length 0 lo)).take (HT.sIx xs.length xs.length hi - HT.sIx xs.length 0 lo)
theorem cutL_length {α : Type} (xs : List α) (lo hi : Option Int) : (cutL xs lo hi).length ≤ xs.length := by
  unfold cutL
  rw [List.length_take, List.length_drop]
  omega
theorem RVs.cut {K : PySem.W.Frag} {c : Cg} {H : Hp} {ds : List D} {vs : List V} (r : RVs K c H ds vs) (lo hi : Option Int) : RVs K c H (cutL ds lo hi) (cutV vs lo hi) := by
  unfold cutL cutV
  rw [r.length]
  exact (r.drop _).take _
def cutD (d : D) (lo hi : Option Int) : Option D := match d with
  | .tup xs => some (.tup (cutL xs lo hi))
  | .lst xs => some (.lst (cutL xs lo hi))
  | .klst xs => some (.lst (cutL xs lo hi))
  | .str z => some (.str (cutS z lo hi))
  | _ => none
/-- a bound of a slice -/
def intO : D → Option Int
  | .int i => some i
  | _ => none
def rSl2 (K : PySem.W.Frag) : V → Option Int → Option Int → Hp → VK → Prop := fun x lo hi H Q => ∃ c a d, RV K c H a x ∧ cutD a lo hi = some d ∧ Done K c H d Q
theorem okS.cut {z : Str} (o : okS z) (lo hi : Option Int) : okS (cutS z lo hi) := by
  refine ⟨?_, ?_⟩
  · have h1 := o.1
    show ((z.cps.toList.drop _).take _).toArray.size ≤ _
    rw [List.size_toArray, List.length_take, List.length_drop, Array.length_toList]
    have : z.cps.size ≤ sizeLine := h1
    omega
  · have hq : z.cps.all (fun c => decide (c < 0x110000)) = true := o.2
    have h2 := Array.all_eq_true_iff_forall_mem.mp hq
    show (((z.cps.toList.drop _).take _).toArray).all _ = true
    refine Array.all_eq_true_iff_forall_mem.mpr fun x hx => h2 x ?_
    have hx' : x ∈ (z.cps.toList.drop (HT.sIx z.length 0 lo)).take (HT.sIx z.length z.length hi - HT.sIx z.length 0 lo) := by simpa using hx
    exact Array.mem_def.mpr (List.mem_of_mem_drop (List.mem_of_mem_take hx'))
theorem sl_d {X : Cx} : SlR X (rSl2 X.K) := by
  intro pins s σ H x v vl vu lo hi sl Q I rx hs pl pu h
  obtain ⟨c, a, d, ra, e, k⟩ := h
  unfold cutD at e
  split at e
  · cases e
    obtain ⟨p, xs, rfl, h1, z, r⟩ := ra.tupAt
    refine sl_tupA pins s σ H _ v vl vu lo hi sl Q I rx hs pl pu ⟨p, xs, rfl, .of h1, fun hw => ?_, fun _ q hq => k.tup (r.cut lo hi) (Nat.le_trans (cutV_length xs lo hi) z) hq⟩
    have e1 : ∀ {α : Type} (l : List α), l.length = xs.length → cutL l lo hi = l := fun l hl => by
      unfold cutL
      rw [hl, hw.1, hw.2, List.drop_zero, ← hl, Nat.sub_zero, List.take_length]
    rw [e1 _ r.length] at k
    exact k.now ra
  · cases e
    obtain ⟨p, xs, rfl, _, h1, z, r⟩ := ra.lstAt
    exact sl_list pins s σ H _ v vl vu lo hi sl Q I rx hs pl pu ⟨p, xs, rfl, .inl h1, fun q hq => k.lst (r.cut lo hi) (Nat.le_trans (cutV_length xs lo hi) z) hq⟩
  · cases e
    obtain ⟨p, xs, rfl, h1, z, r⟩ := (RB.rv ra).klAt
    exact sl_list pins s σ H _ v vl vu lo hi sl Q I rx hs pl pu ⟨p, xs, rfl, h1, fun q hq => k.lst (r.cut lo hi) (Nat.le_trans (cutV_length xs lo hi) z) hq⟩
  · cases e
    obtain ⟨rfl, o⟩ := ra.strAt
    exact sl_str pins s σ H _ v vl vu lo hi sl Q I rx hs pl pu ⟨_, rfl, o.1, k.now (.str (o.cut lo hi))⟩
  · cases e
section
variable {X : Cx} {T : List NTab} {W : WX} {e a b c : Expr} {es rest : List Expr} {pos p2 : Pos} {m ma mb mc : M D} {mt mu : M Bool} {ms : M (List D)} {lo hi : Option Expr} {ml mh : M (Option Int)}
abbrev relO : Cg → Hp → Option Int → Option Int → Prop := fun _ _ a b => a = b
abbrev EO (X : Cx) (T : List NTab) (W : WX) (e : Option Expr) (m : M (Option Int)) : Prop := PO X e (TM (bo X T) W relO m)
theorem po_imp {o : Option Expr} {t t' : TO} (h : PO X o t) (i : ∀ σ H Q, t' σ H Q → t σ H Q) : PO X o t' := ⟨fun pins s σ H Q I q => h.run pins s σ H Q I (i _ _ _ q)⟩
def mSome (ma : M D) : M (Option Int) := mBind ma fun a => mOpt ((intO a).map some)
theorem eo_none : EO X T W none (mRet none) := po_imp po_none fun σ H Q h => h.ret fun _ => rfl
theorem eo_some (ha : EE X T W a ma) : EO X T W (some a) (mSome ma) := po_imp (po_some ha) fun σ H Q h => by
  obtain ⟨e, c, S, sl, R0, p⟩ := TM.bind (r1 := RV X.K) h
  refine ⟨e, c, S, sl, R0, p.imp fun b1 H1 ⟨e, c, S, sl, a, R1, ra, p1⟩ => ?_⟩
  obtain ⟨d, hd, k⟩ := p1.opt R1
  obtain ⟨i, h1, h2⟩ := Option.map_eq_some_iff.mp hd
  subst h2
  cases a <;> simp only [intO, Option.some.injEq, reduceCtorEq] at h1
  subst h1
  obtain rfl := ra.intAt
  exact ⟨_, rfl, k c H1 _ .refl rfl⟩
def mSl (ma : M D) (ml mh : M (Option Int)) : M D := mBind ma fun a => mBind ml fun l => mBind mh fun h => mOpt (cutD a l h)
theorem ee_sl (ha : EE X T W a ma) (hl : EO X T W lo ml) (hh : EO X T W hi mh) : EE X T W (.Subscript a (.Slice lo hi none p2) pos) (mSl ma ml mh) :=
  pe_imp (pe_slice sl_d ha hl hh) fun σ H Q h => by
    obtain ⟨e, c, S, sl, R0, p⟩ := TM.bind2 (r1 := RV X.K) (r1' := relO) (fun k h => h.keep k) h
    refine ⟨e, c, S, sl, R0, p.imp fun b1 H1 ⟨e, c, S, sl, R1, p1⟩ => ⟨e, c, S, sl, R1, p1.imp fun b2 H2 ⟨e, c, S, sl, a, a', R2, ra, rb, p2⟩ => ?_⟩⟩
    cases rb
    refine ⟨e, c, S, sl, R2, (PM.bind (r1 := relO) p2).imp fun b3 H3 ⟨c3, S3, a3, R3, x3, ra3, p4⟩ => ?_⟩
    cases ra3
    obtain ⟨d, hd, k⟩ := p4.opt R3
    exact ⟨c3, a, d, ra.keep (x3.keeps R2.st), hd, k⟩
/-! ### calls of what is built in -/
inductive RBs (K : PySem.W.Frag) (c : Cg) (H : Hp) : List D → List V → Prop
  | nil : RBs K c H [] []
  | cons {d : D} {v : V} {ds : List D} {vs : List V} : RB K c H d v → RBs K c H ds vs → RBs K c H (d :: ds) (v :: vs)
abbrev EAB (X : Cx) (T : List NTab) (W : WX) (es : List Expr) (m : M (List D)) : Prop := PA X es (TM (bo X T) W (RBs X.K) m)
theorem eab_nil : EAB X T W [] mNil := pa_imp pa_nil fun σ H Q h => h.ret fun _ => .nil
theorem eab_cons (ha : EB X T W a ma) (hr : EAB X T W es ms) (hs : starEach (a :: es) X.env = (false, eval a X.env) :: starEach es X.env) : EAB X T W (a :: es) (mCons ma ms) :=
  pa_imp (pa_cons ha hr hs) fun σ H Q h => by
    obtain ⟨e, c, S, sl, R0, p⟩ := TM.bind2B (r1' := RBs X.K) h
    exact ⟨e, c, S, sl, R0, p.imp fun b1 H1 ⟨e, c, S, sl, R1, p1⟩ => ⟨e, c, S, sl, R1, p1.imp fun b2 H2 ⟨e, c, S, sl, a, a', R2, ra, rb, p2⟩ => p2.ret R2 (.cons ra rb)⟩⟩
/-- a call over data -/
def rCall (K : PySem.W.Frag) (f : List D → Option D) : List V → Hp → VK → Prop := fun xs H Q => ∃ c ds d, RBs K c H ds xs ∧ f ds = some d ∧ Done K c H d Q
def mCall (f : List D → Option D) (ms : M (List D)) : M D := mBind ms fun ds => mOpt (f ds)
theorem ee_callB {id : String} {x : Str} {p : Pos} {f : List D → Option D} (hc : CallR X (.builtin id) (rCall X.K f)) (hg : Gl X x) (hm : X.mg x = none) (hv : bootBuiltins x = some (.builtin id)) (ha : EAB X T W (e :: es) ms) (hn : x ≠ "__name__") (hdb : (x == ("__debug__" : Str)) = false)
    (he : starEach (e :: es) X.env = (false, eval e X.env) :: starEach es X.env) (hpl : (backTo pos (starEach es X.env)).any (·.1) = false) : EE X T W (.Call (.Name x p) (e :: es) [] pos) (mCall f ms) :=
  pe_imp (pe_callB hc hg hm hv ha hn hdb he hpl) fun σ H Q h => by
    obtain ⟨e, c, S, sl, R0, p⟩ := TM.bind (r1 := RBs X.K) h
    refine ⟨e, c, S, sl, R0, p.imp fun b1 H1 ⟨e, c, S, sl, a, R1, ra, p1⟩ => ?_⟩
    obtain ⟨d, hd, k⟩ := p1.opt R1
    exact ⟨c, a, d, ra, hd, k⟩
theorem ee_callTy {id : String} {x : Str} {p : Pos} {f : List D → Option D} (hc : CallR X (.type id) (rCall X.K f)) (hg : Gl X x) (hm : X.mg x = none) (hv : bootBuiltins x = some (.type id)) (ha : EAB X T W (e :: es) ms) (hn : x ≠ "__name__") (hdb : (x == ("__debug__" : Str)) = false)
    (he : starEach (e :: es) X.env = (false, eval e X.env) :: starEach es X.env) (hpl : (backTo pos (starEach es X.env)).any (·.1) = false) : EE X T W (.Call (.Name x p) (e :: es) [] pos) (mCall f ms) :=
  pe_imp (pe_callTy hc hg hm hv ha hn hdb he hpl) fun σ H Q h => by
    obtain ⟨e, c, S, sl, R0, p⟩ := TM.bind (r1 := RBs X.K) h
    refine ⟨e, c, S, sl, R0, p.imp fun b1 H1 ⟨e, c, S, sl, a, R1, ra, p1⟩ => ?_⟩
    obtain ⟨d, hd, k⟩ := p1.opt R1
    exact ⟨c, a, d, ra, hd, k⟩
end
section
variable {K : PySem.W.Frag} {c : Cg} {H : Hp}
theorem RBs.one {d : D} {vs : List V} (h : RBs K c H [d] vs) : ∃ v, vs = [v] ∧ RB K c H d v := by
  cases h with
  | cons h r => cases r; exact ⟨_, rfl, h⟩
theorem RBs.two {d e : D} {vs : List V} (h : RBs K c H [d, e] vs) : ∃ v u, vs = [v, u] ∧ RB K c H d v ∧ RB K c H e u := by
  cases h with
  | cons h r => cases r with
    | cons h2 r => cases r; exact ⟨_, _, rfl, h, h2⟩
theorem RKs.map : ∀ {kvs : List (D × D)} {es : List (Key × V)}, RKs K c H kvs es → RVs K c H (kvs.map (·.1)) (es.map fun e => kV e.1) → True := fun _ _ => trivial
end
def lenD : List D → Option D
  | [.str x] => some (.int x.length)
  | [.tup ds] => some (.int ds.length)
  | [.lst ds] => some (.int ds.length)
  | [.klst ds] => some (.int ds.length)
  | [.ktup ds] => some (.int ds.length)
  | [.dct kvs] => some (.int kvs.length)
  | _ => none
def tupleD : List D → Option D
  | [.lst ds] => some (.tup ds)
  | _ => none
def listD : List D → Option D
  | [.tup ds] => some (.lst ds)
  | [.lst ds] => some (.lst ds)
  | _ => none
def blsD : List D → Option (List Bool)
  | [] => some []
  | .bl b :: ds => (blsD ds).map (b :: ·)
  | _ => none
def intsD : List D → Option (List Int)
  | [] => some []
  | .int b :: ds => (intsD ds).map (b :: ·)
  | _ => none
def strsD : List D → Option (List Str)
  | [] => some []
  | .str b :: ds => (strsD ds).map (b :: ·)
  | _ => none
def allD : List D → Option D
  | [.lst ds] => (blsD ds).map fun bs => .bl (bs.all id)
  | _ => none
def anyD : List D → Option D
  | [.lst ds] => (blsD ds).map fun bs => .bl (bs.any id)
  | _ => none
def absD : List D → Option D
  | [.int i] => some (.int (if i < 0 then -i else i))
  | _ => none
def intD : List D → Option D
  | [.int i] => some (.int i)
  | [.bl k] => some (.int (if k then 1 else 0))
  | _ => none
def divmodD : List D → Option D
  | [.int i, .int j] => if 0 < j ∧ j < 1073741824 then some (.tup [.int (i / j), .int (i % j)]) else none
  | _ => none
def sumD : List D → Option D
  | [.lst ds] => (intsD ds).map fun ns => .int ns.sum
  | _ => none
/-- the greatest of some ints -/
def maxI : List Int → Option Int
  | [] => none
  | x :: xs => some (xs.foldl max x)
def minI : List Int → Option Int
  | [] => none
  | x :: xs => some (xs.foldl min x)
def maxD : List D → Option D
  | [.lst ds] => (intsD ds).bind fun ns => (maxI ns).map .int
  | [.int i, .int j] => some (.int (if j > i then j else i))
  | _ => none
def minD : List D → Option D
  | [.lst ds] => (intsD ds).bind fun ns => (minI ns).map .int
  | [.int i, .int j] => some (.int (if j < i then j else i))
  | _ => none
section
variable {K : PySem.W.Frag} {c : Cg} {H : Hp}
theorem bls_V : ∀ {ds : List D} {vs : List V} {bs : List Bool}, RVs K c H ds vs → blsD ds = some bs → vs = bs.map V.bl
  | [], _, bs, .nil, e => by cases e; rfl
  | d :: ds, _, bs, .cons h r, e => by
    cases d <;> simp only [blsD, reduceCtorEq, Option.map_eq_some_iff] at e
    obtain ⟨b2, e1, rfl⟩ := e
    rw [List.map_cons, ← bls_V r e1]
    cases h; rfl
theorem ints_V : ∀ {ds : List D} {vs : List V} {bs : List Int}, RVs K c H ds vs → intsD ds = some bs → vs = bs.map V.int
  | [], _, bs, .nil, e => by cases e; rfl
  | d :: ds, _, bs, .cons h r, e => by
    cases d <;> simp only [intsD, reduceCtorEq, Option.map_eq_some_iff] at e
    obtain ⟨b2, e1, rfl⟩ := e
    rw [List.map_cons, ← ints_V r e1]
    cases h; rfl
theorem strs_V : ∀ {ds : List D} {vs : List V} {bs : List Str}, RVs K c H ds vs → strsD ds = some bs → vs = bs.map V.str ∧ ∀ x ∈ bs, okS x
  | [], _, bs, .nil, e => by cases e; exact ⟨rfl, fun x h => by cases h⟩
  | d :: ds, _, bs, .cons h r, e => by
    cases d <;> simp only [strsD, reduceCtorEq, Option.map_eq_some_iff] at e
    obtain ⟨b2, e1, rfl⟩ := e
    obtain ⟨h1, h2⟩ := strs_V r e1
    rw [List.map_cons, ← h1]
    cases h with
    | str o =>
      refine ⟨rfl, fun x hx => ?_⟩
      rcases List.mem_cons.mp hx with rfl | hx
      · exact o
      · exact h2 x hx
theorem V_strs : ∀ {bs : List Str}, (∀ x ∈ bs, okS x) → RVs K c H (bs.map D.str) (bs.map V.str)
  | [], _ => .nil
  | b :: bs, h => .cons (.str (h b List.mem_cons_self)) (V_strs fun x hx => h x (List.mem_cons_of_mem _ hx))
theorem V_ints : ∀ {bs : List Int}, RVs K c H (bs.map D.int) (bs.map V.int)
  | [] => .nil
  | b :: bs => .cons (.int b) V_ints
end
theorem maxI_of : ∀ {ns : List Int} {m : Int}, m ∈ ns → (∀ y, y ∈ ns → y ≤ m) → maxI ns = some m := by
  have key : ∀ (xs : List Int) (x : Int), xs.foldl max x = x ∨ xs.foldl max x ∈ xs := by
    intro xs
    induction xs with
    | nil => intro x; exact .inl rfl
    | cons y xs ih =>
      intro x
      rw [List.foldl_cons]
      rcases ih (max x y) with h | h
      · rw [h]
        by_cases hxy : x ≤ y
        · right; rw [Int.max_eq_right hxy]; exact List.mem_cons_self
        · left; exact Int.max_eq_left (by omega)
      · exact .inr (List.mem_cons_of_mem _ h)
  have ge : ∀ (xs : List Int) (x : Int), x ≤ xs.foldl max x ∧ ∀ y ∈ xs, y ≤ xs.foldl max x := by
    intro xs
    induction xs with
    | nil => intro x; exact ⟨Int.le_refl _, fun y h => by cases h⟩
    | cons z xs ih =>
      intro x
      rw [List.foldl_cons]
      obtain ⟨h1, h2⟩ := ih (max x z)
      refine ⟨by omega, fun y hy => ?_⟩
      rcases List.mem_cons.mp hy with rfl | hy
      · omega
      · exact h2 y hy
  intro ns m hm hle
  cases ns with
  | nil => cases hm
  | cons x xs =>
    show some (xs.foldl max x) = some m
    congr 1
    obtain ⟨g1, g2⟩ := ge xs x
    have u1 : m ≤ xs.foldl max x := by
      rcases List.mem_cons.mp hm with rfl | hm
      · exact g1
      · exact g2 m hm
    have u2 : xs.foldl max x ≤ m := by
      rcases key xs x with h | h
      · rw [h]; exact hle x List.mem_cons_self
      · exact hle _ (List.mem_cons_of_mem _ h)
    omega
theorem minI_of : ∀ {ns : List Int} {m : Int}, m ∈ ns → (∀ y, y ∈ ns → m ≤ y) → minI ns = some m := by
  have key : ∀ (xs : List Int) (x : Int), xs.foldl min x = x ∨ xs.foldl min x ∈ xs := by
    intro xs
    induction xs with
    | nil => intro x; exact .inl rfl
    | cons y xs ih =>
      intro x
      rw [List.foldl_cons]
      rcases ih (min x y) with h | h
      · rw [h]
        by_cases hxy : y ≤ x
        · right; rw [Int.min_eq_right hxy]; exact List.mem_cons_self
        · left; exact Int.min_eq_left (by omega)
      · exact .inr (List.mem_cons_of_mem _ h)
  have ge : ∀ (xs : List Int) (x : Int), xs.foldl min x ≤ x ∧ ∀ y ∈ xs, xs.foldl min x ≤ y := by
    intro xs
    induction xs with
    | nil => intro x; exact ⟨Int.le_refl _, fun y h => by cases h⟩
    | cons z xs ih =>
      intro x
      rw [List.foldl_cons]
      obtain ⟨h1, h2⟩ := ih (min x z)
      refine ⟨by omega, fun y hy => ?_⟩
      rcases List.mem_cons.mp hy with rfl | hy
      · omega
      · exact h2 y hy
  intro ns m hm hle
  cases ns with
  | nil => cases hm
  | cons x xs =>
    show some (xs.foldl min x) = some m
    congr 1
    obtain ⟨g1, g2⟩ := ge xs x
    have u1 : xs.foldl min x ≤ m := by
      rcases List.mem_cons.mp hm with rfl | hm
      · exact g1
      · exact g2 m hm
    have u2 : m ≤ xs.foldl min x := by
      rcases key xs x with h | h
      · rw [h]; exact hle x List.mem_cons_self
      · exact hle _ (List.mem_cons_of_mem _ h)
    omega
section
variable {X : Cx}
theorem cd_len : CallR X (.builtin "len") (rCall X.K lenD) := by
  intro pins s σ H xs us Q I r h
  obtain ⟨c, ds, d, rs, e, k⟩ := h
  unfold lenD at e
  split at e
  · cases e
    obtain ⟨v, rfl, r1⟩ := rs.one
    obtain ⟨rfl, o⟩ := r1.strAt
    exact call_len pins s σ H _ us Q I r ⟨_, _, rfl, ⟨o.1, rfl⟩, k.now (.int _)⟩
  · cases e
    obtain ⟨v, rfl, r1⟩ := rs.one
    obtain ⟨p, xs, rfl, h1, z, r2⟩ := r1.tupAt
    exact call_len pins s σ H _ us Q I r ⟨_, _, rfl, .inr ⟨xs, h1, r2.length⟩, k.now (.int _)⟩
  · cases e
    obtain ⟨v, rfl, r1⟩ := rs.one
    obtain ⟨p, xs, rfl, h1, z, r2⟩ := r1.lstAt
    exact call_len pins s σ H _ us Q I r ⟨_, _, rfl, .inl ⟨xs, .inl h1, r2.length⟩, k.now (.int _)⟩
  · cases e
    obtain ⟨v, rfl, r1⟩ := rs.one
    obtain ⟨p, xs, rfl, h1, z, r2⟩ := r1.klAt
    exact call_len pins s σ H _ us Q I r ⟨_, _, rfl, .inl ⟨xs, h1, r2.length⟩, k.now (.int _)⟩
  · cases e
    obtain ⟨v, rfl, r1⟩ := rs.one
    obtain ⟨p, xs, rfl, h1, z, r2⟩ := r1.ktAt
    exact call_len pins s σ H _ us Q I r ⟨_, _, rfl, .inr ⟨xs, h1, r2.length⟩, k.now (.int _)⟩
  · cases e
    obtain ⟨v, rfl, r1⟩ := rs.one
    obtain ⟨p, rfl, hh⟩ := r1.dctAt
    obtain ⟨u, rfl, rx⟩ := vals1 r
    obtain rfl : u = .ref p := rx
    rcases hh with ⟨es, hr, z, rk⟩ | ⟨es, hr, z, rk⟩
    · rw [rk.length] at k
      exact d_len I hr fun t s' I' => ⟨.int _, H, I', ⟨t, rfl⟩, k.now (.int _)⟩
    · obtain ⟨z, hd, ys, rel, dd⟩ := dt_rd I.hok hr
      have hl : es.length = ys.length := Paired.length rel
      rw [rk.length, hl] at k
      exact call_len_dictH hd dd (by rw [← hl]; rw [sizeLine_eq] at z; omega) ⟨.int _, H, I.tok _, ⟨_, rfl⟩, k.now (.int _)⟩
  · cases e
theorem cd_tuple : CallR X (.type "tuple") (rCall X.K tupleD) := by
  intro pins s σ H xs us Q I r h
  obtain ⟨c, ds, d, rs, e, k⟩ := h
  unfold tupleD at e
  split at e
  · cases e
    obtain ⟨v, rfl, r1⟩ := rs.one
    obtain ⟨p, xs, rfl, h1, z, r2⟩ := r1.lstAt
    exact call_tuple_of pins s σ H _ us Q I r ⟨p, xs, rfl, .inl ⟨.inl h1, fun l hl => k.tup r2 z hl⟩⟩
  · cases e
theorem cd_list : CallR X (.type "list") (rCall X.K listD) := by
  intro pins s σ H xs us Q I r h
  obtain ⟨c, ds, d, rs, e, k⟩ := h
  unfold listD at e
  split at e
  · cases e
    obtain ⟨v, rfl, r1⟩ := rs.one
    obtain ⟨p, xs, rfl, h1, z, r2⟩ := r1.tupAt
    exact call_list_of pins s σ H _ us Q I r ⟨p, xs, rfl, .inr h1, fun l hl => k.lst r2 z hl⟩
  · cases e
    obtain ⟨v, rfl, r1⟩ := rs.one
    obtain ⟨p, xs, rfl, h1, z, r2⟩ := r1.lstAt
    exact call_list_of pins s σ H _ us Q I r ⟨p, xs, rfl, .inl (.inl h1), fun l hl => k.lst r2 z hl⟩
  · cases e
theorem cd_all (hc : X.calm = true) : CallR X (.builtin "all") (rCall X.K allD) := by
  intro pins s σ H xs us Q I r h
  obtain ⟨c, ds, d, rs, e, k⟩ := h
  unfold allD at e
  split at e
  · obtain ⟨bs, e1, rfl⟩ := Option.map_eq_some_iff.mp e
    obtain ⟨v, rfl, r1⟩ := rs.one
    obtain ⟨p, xs, rfl, h1, z, r2⟩ := r1.lstAt
    rw [bls_V r2 e1] at h1
    exact cr_all hc pins s σ H _ us Q I r ⟨p, bs, rfl, .inl h1, k.now (.bl _)⟩
  · cases e
theorem cd_any (hc : X.calm = true) : CallR X (.builtin "any") (rCall X.K anyD) := by
  intro pins s σ H xs us Q I r h
  obtain ⟨c, ds, d, rs, e, k⟩ := h
  unfold anyD at e
  split at e
  · obtain ⟨bs, e1, rfl⟩ := Option.map_eq_some_iff.mp e
    obtain ⟨v, rfl, r1⟩ := rs.one
    obtain ⟨p, xs, rfl, h1, z, r2⟩ := r1.lstAt
    rw [bls_V r2 e1] at h1
    exact cr_any hc pins s σ H _ us Q I r ⟨p, bs, rfl, .inl h1, k.now (.bl _)⟩
  · cases e
theorem cd_abs : CallR X (.builtin "abs") (rCall X.K absD) := by
  intro pins s σ H xs us Q I r h
  obtain ⟨c, ds, d, rs, e, k⟩ := h
  unfold absD at e
  split at e
  · cases e
    obtain ⟨v, rfl, r1⟩ := rs.one
    obtain rfl := r1.intAt
    exact call_abs pins s σ H _ us Q I r ⟨_, rfl, k.now (.int _)⟩
  · cases e
theorem cd_int : CallR X (.type "int") (rCall X.K intD) := by
  intro pins s σ H xs us Q I r h
  obtain ⟨c, ds, d, rs, e, k⟩ := h
  unfold intD at e
  split at e
  · cases e
    obtain ⟨v, rfl, r1⟩ := rs.one
    obtain rfl := r1.intAt
    exact call_int1 pins s σ H _ us Q I r (.inl ⟨_, rfl, k.now (.int _)⟩)
  · cases e
    obtain ⟨v, rfl, r1⟩ := rs.one
    obtain rfl := r1.blAt
    exact call_int1 pins s σ H _ us Q I r (.inr ⟨_, rfl, k.now (.int _)⟩)
  · cases e
theorem cd_divmod : CallR X (.builtin "divmod") (rCall X.K divmodD) := by
  intro pins s σ H xs us Q I r h
  obtain ⟨c, ds, d, rs, e, k⟩ := h
  unfold divmodD at e
  split at e
  · split at e
    · rename_i hz
      cases e
      obtain ⟨v, u, rfl, r1, r2⟩ := rs.two
      obtain rfl := r1.intAt
      obtain rfl := r2.intAt
      exact call_divmod pins s σ H _ us Q I r ⟨_, _, rfl, hz, fun p hp => k.tup (.cons (.int _) (.cons (.int _) .nil)) (show 2 ≤ sizeLine by rw [sizeLine_eq]; decide) hp⟩
    · cases e
  · cases e
theorem cd_max (hc : X.calm = true) : CallR X (.builtin "max") (rCall X.K maxD) := by
  intro pins s σ H xs us Q I r h
  obtain ⟨c, ds, d, rs, e, k⟩ := h
  unfold maxD at e
  split at e
  · obtain ⟨bs, e1, e2⟩ := Option.bind_eq_some_iff.mp e
    obtain ⟨m, e3, rfl⟩ := Option.map_eq_some_iff.mp e2
    obtain ⟨v, rfl, r1⟩ := rs.one
    obtain ⟨p, xs, rfl, h1, z, r2⟩ := r1.lstAt
    rw [ints_V r2 e1] at h1
    have hne : 0 < bs.length := by
      cases bs with
      | nil => cases e3
      | cons => exact Nat.succ_pos _
    refine cr_max hc pins s σ H _ us Q I r ⟨p, bs, rfl, .inl h1, hne, fun m' hm hle => ?_⟩
    have := maxI_of hm hle
    rw [e3] at this
    cases this
    exact k.now (.int _)
  · cases e
    obtain ⟨v, u, rfl, r1, r2⟩ := rs.two
    obtain rfl := r1.intAt
    obtain rfl := r2.intAt
    exact call_max2 hc pins s σ H _ us Q I r ⟨_, _, rfl, k.now (.int _)⟩
  · cases e
theorem cd_min (hc : X.calm = true) : CallR X (.builtin "min") (rCall X.K minD) := by
  intro pins s σ H xs us Q I r h
  obtain ⟨c, ds, d, rs, e, k⟩ := h
  unfold minD at e
  split at e
  · obtain ⟨bs, e1, e2⟩ := Option.bind_eq_some_iff.mp e
    obtain ⟨m, e3, rfl⟩ := Option.map_eq_some_iff.mp e2
    obtain ⟨v, rfl, r1⟩ := rs.one
    obtain ⟨p, xs, rfl, h1, z, r2⟩ := r1.lstAt
    rw [ints_V r2 e1] at h1
    have hne : 0 < bs.length := by
      cases bs with
      | nil => cases e3
      | cons => exact Nat.succ_pos _
    refine cr_min hc pins s σ H _ us Q I r ⟨p, bs, rfl, .inl h1, hne, fun m' hm hle => ?_⟩
    have := minI_of hm hle
    rw [e3] at this
    cases this
    exact k.now (.int _)
  · cases e
    obtain ⟨v, u, rfl, r1, r2⟩ := rs.two
    obtain rfl := r1.intAt
    obtain rfl := r2.intAt
    exact call_min2 hc pins s σ H _ us Q I r ⟨_, _, rfl, k.now (.int _)⟩
  · cases e
theorem cd_sum (hc : X.calm = true) : CallR X (.builtin "sum") (rCall X.K sumD) := by
  intro pins s σ H xs us Q I r h
  obtain ⟨c, ds, d, rs, e, k⟩ := h
  unfold sumD at e
  split at e
  · obtain ⟨bs, e1, rfl⟩ := Option.map_eq_some_iff.mp e
    obtain ⟨v, rfl, r1⟩ := rs.one
    obtain ⟨p, xs, rfl, h1, z, r2⟩ := r1.lstAt
    rw [ints_V r2 e1] at h1
    exact cr_sum hc pins s σ H _ us Q I r ⟨p, bs, rfl, .inl h1, k.now (.int _)⟩
  · cases e
end
end Lk
set_option Elab.async false
set_option linter.all false
set_option maxRecDepth 100000
set_option maxHeartbeats 1000000
set_option autoImplicit false
namespace Lk
open PySem PySem.Spec PyProof.Rows L2 NdefX
/-! ### isinstance -/
inductive TyN where
  | int | bool | str | tuple | list
  deriving DecidableEq
def TyN.s : TyN → String
  | .int => "int" | .bool => "bool" | .str => "str" | .tuple => "tuple" | .list => "list"
def isiD (t : TyN) : D → Option Bool
  | .non => some false
  | .bl _ => some (match t with | .int => true | .bool => true | _ => false)
  | .int _ => some (match t with | .int => true | _ => false)
  | .str _ => some (match t with | .str => true | _ => false)
  | .tup _ => some (match t with | .tuple => true | _ => false)
  | .lst _ => some (match t with | .list => true | _ => false)
  | .ktup _ => some (match t with | .tuple => true | _ => false)
  | _ => none
theorem kit_d {K : PySem.W.Frag} {c : Cg} {H : Hp} {d : D} {v : V} (h : RB K c H d v) {t : TyN} {k : Bool} (e : isiD t d = some k) : ∃ u, TyX K H v u ∧ PySem.W.kitOne K u (.type t.s) = some k := by
  cases d <;> simp only [isiD, Option.some.injEq, reduceCtorEq] at e
  · rw [h.nonAt]
    exact ⟨_, .base .non, kit_ty (by subst e; cases t <;> decide +kernel)⟩
  · rw [h.blAt]
    exact ⟨_, .base (.bl _), kit_ty (by subst e; cases t <;> decide +kernel)⟩
  · rw [h.intAt]
    exact ⟨_, .base (.int _), kit_ty (by subst e; cases t <;> decide +kernel)⟩
  · rw [h.strAt.1]
    exact ⟨_, .base (.str _), kit_ty (by subst e; cases t <;> decide +kernel)⟩
  · obtain ⟨p, xs, rfl, h1, z, r⟩ := h.tupAt
    refine ⟨.type "tuple", ?_, kit_ty (by subst e; cases t <;> decide +kernel)⟩
    rcases h1 with (h1 | ⟨ob, h1⟩) | ⟨o, its, n, h1, h2, _⟩
    · exact .base (.tup h1)
    · exact .fTuple h1
    · exact .kTuple h1 h2
  · obtain ⟨p, xs, rfl, h1, z, r⟩ := h.lstAt
    refine ⟨.type "list", ?_, kit_ty (by subst e; cases t <;> decide +kernel)⟩
    rcases h1 with h1 | ⟨ob, h1⟩
    · exact .base (.lst h1)
    · exact .base (.frz h1)
  · obtain ⟨p, xs, rfl, h1, z, r⟩ := h.ktAt
    refine ⟨.type "tuple", ?_, kit_ty (by subst e; cases t <;> decide +kernel)⟩
    rcases h1 with (h1 | ⟨ob, h1⟩) | ⟨o, its, n, h1, h2, _⟩
    · exact .base (.tup h1)
    · exact .fTuple h1
    · exact .kTuple h1 h2
section
variable {X : Cx} {T : List NTab} {W : WX} {e a b c : Expr} {es rest : List Expr} {pos p2 : Pos} {m ma mb mc : M D} {mt mu : M Bool} {ms : M (List D)}
def mIsi (t : TyN) (ma : M D) : M D := mBind ma fun a => mOpt ((isiD t a).map .bl)
theorem ee_isi {t : TyN} {p p' : Pos} {x y : Str} (hx : x = "isinstance") (hy : y = Str.ofString t.s) (hg : Gl X x) (hm : X.mg x = none) (hg' : Gl X y) (hm' : X.mg y = none) (ha : EB X T W a ma) (hp : starEach [a, .Name y p'] X.env = (false, eval a X.env) :: starEach [.Name y p'] X.env) :
    EE X T W (.Call (.Name x p) [a, .Name y p'] [] pos) (mIsi t ma) := by
  subst hx
  have hb : PE X (.Name y p') (tC (.ty t.s)) := by
    subst hy
    exact pe_bltn hg' hm' (u := .type t.s) (by cases t <;> decide +kernel) rfl (by cases t <;> decide +kernel) (by cases t <;> decide +kernel)
  refine pe_imp (pe_callB call_isi hg hm (by decide +kernel) (pa_cons ha (pa_cons hb pa_nil) hp) (by decide +kernel) (by decide +kernel) hp) fun σ H Q h => ?_
  obtain ⟨e, c, S, sl, R0, p⟩ := TM.bind (r1 := RB X.K) h
  refine ⟨e, c, S, sl, R0, p.imp fun b1 H1 ⟨e, c, S, sl, a, R1, ra, p1⟩ => ?_⟩
  obtain ⟨d, hd, k⟩ := p1.opt R1
  obtain ⟨k0, h1, h2⟩ := Option.map_eq_some_iff.mp hd
  subst h2
  obtain ⟨u, ty, e1⟩ := kit_d ra h1
  exact ⟨b1, .ty t.s, u, _, k0, rfl, .ty _, ty, e1, k c H1 _ .refl (.bl k0)⟩
/-! ### calls of the text's own functions -/
/-- arguments: data, or functions that are handed on -/
inductive RA (K : PySem.W.Frag) (vκ : List V) (c : Cg) (H : Hp) : D → V → Prop
  | rv {d : D} {v : V} : RV K c H d v → RA K vκ c H d v
  | clo {j : Nat} {v : V} : vκ[j]? = some v → RA K vκ c H (.clo j) v
inductive RAs (K : PySem.W.Frag) (vκ : List V) (c : Cg) (H : Hp) : List D → List V → Prop
  | nil : RAs K vκ c H [] []
  | cons {d : D} {v : V} {ds : List D} {vs : List V} : RA K vκ c H d v → RAs K vκ c H ds vs → RAs K vκ c H (d :: ds) (v :: vs)
theorem RA.keep {K : PySem.W.Frag} {vκ : List V} {c c' : Cg} {H H' : Hp} (k : Keeps c H c' H') {d : D} {v : V} (h : RA K vκ c H d v) : RA K vκ c' H' d v := by
  cases h with
  | rv h => exact .rv (h.keep k)
  | clo h => exact .clo h
theorem RAs.keep {K : PySem.W.Frag} {vκ : List V} {c c' : Cg} {H H' : Hp} (k : Keeps c H c' H') : ∀ {ds : List D} {vs : List V}, RAs K vκ c H ds vs → RAs K vκ c' H' ds vs
  | _, _, .nil => .nil
  | _, _, .cons h r => .cons (h.keep k) (RAs.keep k r)
theorem RAs.append {K : PySem.W.Frag} {vκ : List V} {c : Cg} {H : Hp} : ∀ {ds es : List D} {vs us : List V}, RAs K vκ c H ds vs → RAs K vκ c H es us → RAs K vκ c H (ds ++ es) (vs ++ us)
  | _, _, _, _, .nil, s => s
  | _, _, _, _, .cons h r, s => .cons h (RAs.append r s)
theorem RVs.ra {K : PySem.W.Frag} {vκ : List V} {c : Cg} {H : Hp} : ∀ {ds : List D} {vs : List V}, RVs K c H ds vs → RAs K vκ c H ds vs
  | _, _, .nil => .nil
  | _, _, .cons h r => .cons (.rv h) (RVs.ra r)
theorem RAs.length {K : PySem.W.Frag} {vκ : List V} {c : Cg} {H : Hp} : ∀ {ds : List D} {vs : List V}, RAs K vκ c H ds vs → ds.length = vs.length
  | _, _, .nil => rfl
  | _, _, .cons _ r => congrArg (· + 1) (RAs.length r)
/-- what a function means: of its arguments and of the functions that are handed in -/
abbrev FSem := List D → List Sem → Sto → Option (R D)
def spOf (B : Bd) (n : Nat) (sem : FSem) : Sp := fun vs H Q E => vs.length = n ∧ ∃ c S ds κs vκ, StOk B c S H ∧ TabsN B.T H ∧ KsOk B κs vκ c H ∧ RAs B.K vκ c H ds vs ∧ PF B c H (sem ds κs S) Q E
theorem CloOk.ext {B : Bd} {l : Nat} {κ : Sem} {v : V} {c0 c : Cg} {H0 H : Hp} (k : CloOk B l κ v c0 H0) (x : Ext c0 H0 c H) : CloOk B l κ v c H := by
  obtain ⟨f, rfl, run⟩ := k.run
  refine ⟨f, rfl, fun A outer s H1 us vs Q E hr e0 sk rv h => run A outer s H1 us vs Q E hr e0 (fun a o e nr nt => ?_) rv ?_⟩
  · refine sk a o (x.keep a o e nr nt) (fun z => ?_) nt
    rcases x.ρn a z with z | z
    · exact nr z
    · rw [e] at z; cases z
  · obtain ⟨c1, S, ds, f1, r1, st, tb, rs, p⟩ := h
    exact ⟨c1, S, ds, fun a h => f1 a (x.F a h), fun k p h => r1 k p (x.ρ k p h), st, tb, rs, p⟩
theorem KsOk.ext {B : Bd} {κs : List Sem} {vκ : List V} {c0 c : Cg} {H0 H : Hp} (k : KsOk B κs vκ c0 H0) (x : Ext c0 H0 c H) : KsOk B κs vκ c H :=
  ⟨k.len, fun j κ v e1 e2 => by
    obtain ⟨l, q⟩ := k.ok j κ v e1 e2
    exact ⟨l, q.ext x⟩⟩
/-- a function of the module: its name, level, the number of its parameters, what it means, the defaults that fill up -/
structure Fn (B : Bd) (x : Str) (k n : Nat) (sem : FSem) (dfl : List D) : Prop where
  ok : ∃ f fd ps dvs ds, B.mg x = some (.ref f) ∧ PySem.W.keepIn B.K (.ref f) = true ∧ FnOk B.P B.w B.K B.mg B.base (L2.CX B.P B.w) k f fd ps (spOf B n sem) ∧ Binds B.K fd ps ds ∧ Vals dvs ds ∧ ∀ c H, RVs B.K c H dfl dvs
/-- argument lists that may hand functions on -/
abbrev relA (K : PySem.W.Frag) : Cg → Hp → D → V → Prop := fun c H d v => RV K c H d v
/-- a parameter that is a function -/
def mFun (i : Nat) : M D := fun v S => match v.sl[i]? with
  | some (some (.clo j)) => some (.ok (.clo j) S)
  | _ => none
/-- argument lists: the reading tells which functions stand at the frame's entry -/
def PMA (B : Bd) (W : WX) (e : En) (sl : List (Option Sl)) (σ : L2.St) (c : Cg) (H : Hp) (r : Option (R (List D))) (Q : List V → Hp → Prop) : Prop := PM B W (RAs B.K e.vκ) e sl σ c H r Q
def TMA (B : Bd) (W : WX) (m : M (List D)) : TA := fun σ H Q => ∃ e c S sl, Rp B e c S sl σ H ∧ PMA B W e sl σ c H (m ⟨sl, e.κs⟩ S) Q
abbrev EX (X : Cx) (T : List NTab) (W : WX) (es : List Expr) (m : M (List D)) : Prop := PA X es (TMA (bo X T) W m)
theorem ex_of (h : EA X T W es ms) : EX X T W es ms := pa_imp h fun σ H Q ⟨e, c, S, sl, R0, p⟩ => ⟨e, c, S, sl, R0, p.weak fun h => h.ra⟩
theorem ex_fun {i : Nat} {x : Str} (hN : X.N[i]? = some x) (hv : Vis X.env.scope x) (hd : (x == ("__debug__" : Str)) = false) (hcd : (x == ("__classdict__" : Str)) = false) (hr : EX X T W es ms)
    (hs : starEach (.Name x pos :: es) X.env = (false, eval (.Name x pos) X.env) :: starEach es X.env) : EX X T W (.Name x pos :: es) (mCons (mFun i) ms) :=
  pa_imp (pa_cons (pe_var hN hv hd hcd) hr hs) fun σ H Q ⟨e, c, S, sl, R0, p⟩ => by
    have p0 : PM (bo X T) W (RAs X.K e.vκ) e sl σ c H (mCons (mFun i) ms ⟨sl, e.κs⟩ S) Q := p
    unfold mCons at p0
    cases hq : sl[i]? with
    | none => simp only [mBind, mFun, hq] at p0; exact p0.elim
    | some o =>
      cases o with
      | none => simp only [mBind, mFun, hq] at p0; exact p0.elim
      | some s0 =>
        cases s0 with
        | val d => simp only [mBind, mFun, hq] at p0; exact p0.elim
        | own o => simp only [mBind, mFun, hq] at p0; exact p0.elim
        | clo j =>
          obtain ⟨v, h1, h2⟩ := R0.sl.at_ i _ hq
          refine ⟨v, h1, e, c, S, sl, R0, ?_⟩
          have e1 : mFun i ⟨sl, e.κs⟩ S = some (.ok (.clo j) S) := by simp only [mFun, hq]
          have p1 : PM (bo X T) W (RAs X.K e.vκ) e sl σ c H (mBind ms (fun as => mRet (D.clo j :: as)) ⟨sl, e.κs⟩ S) Q := by
            have p2 := p0
            unfold mBind at p2
            rw [e1] at p2
            exact p2
          exact (PM.bind (r1 := RAs X.K e.vκ) p1).imp fun b2 H2 ⟨c2, S2, a2, R2, x2, ra2, p2⟩ => p2.ret R2 (.cons (.clo h2) ra2)
theorem ex_cons (ha : EE X T W a ma) (hr : EX X T W es ms) (hs : starEach (a :: es) X.env = (false, eval a X.env) :: starEach es X.env) : EX X T W (a :: es) (mCons ma ms) :=
  pa_imp (pa_cons ha hr hs) fun σ H Q ⟨e, c, S, sl, R0, p⟩ => by
    have p0 : PM (bo X T) W (RAs X.K e.vκ) e sl σ c H (mCons ma ms ⟨sl, e.κs⟩ S) Q := p
    exact ⟨e, c, S, sl, R0, (PM.bind (r1 := RV X.K) p0).imp fun b1 H1 ⟨c1, S1, a1, R1, x1, ra1, p1⟩ => ⟨e, c1, S1, sl, R1, (PM.bind (r1 := RAs X.K e.vκ) p1).imp fun b2 H2 ⟨c2, S2, a2, R2, x2, ra2, p2⟩ =>
      p2.ret R2 (.cons (.rv (ra1.keep (x2.keeps R1.st))) ra2)⟩⟩
def mFn (sem : FSem) (dfl : List D) (ms : M (List D)) : M D := mBind ms fun ds => fun v S => sem (ds ++ dfl) v.κs S
theorem pf_of {B : Bd} {e : En} {c : Cg} {S : Sto} {sl : List (Option Sl)} {σ : L2.St} {H : Hp} {Q : VK} {r : Option (R D)} (R0 : Rp B e c S sl σ H) (p : PM B W (RV B.K) e sl σ c H r Q) : PF B c H r Q fun cls dd H' => W cls dd σ H' := by
  cases r with
  | none => exact p
  | some r =>
    cases r with
    | ok d S' => exact fun c' H' v x st tb rv => p c' H' v (R0.to x st tb) x rv
    | er x S' => exact fun c' H' cls dd x st tb rx => p c' H' cls dd (R0.to x st tb) x rx
theorem ee_fn {x : Str} {p : Pos} {k n : Nat} {sem : FSem} {dfl : List D} (F : Fn (bo X T) x k n sem dfl) (hr : Room k X.A) (tk : Takes X W) (hg : Gl X x) (hn : n = (e :: es).length + dfl.length) (hl : ∀ v S ds S', ms v S = some (.ok ds S') → ds.length = (e :: es).length) (ha : EX X T W (e :: es) ms) (hdb : (x == ("__debug__" : Str)) = false)
    (he : starEach (e :: es) X.env = (false, eval e X.env) :: starEach es X.env) (hpl : (backTo pos (starEach es X.env)).any (·.1) = false) : EE X T W (.Call (.Name x p) (e :: es) [] pos) (mFn sem dfl ms) := by
  obtain ⟨f, fd, ps, dvs, ds, h1, h2, h3, h4, h5, h6⟩ := F.ok
  refine pe_imp (pe_callSD h3 hr hg h1 h2 h4 h5 (fun σ => passAt tk σ) ha hdb he hpl) fun σ H Q ⟨e, c, S, sl, R0, p⟩ => ?_
  refine ⟨e, c, S, sl, R0, ?_⟩
  have p0 : PM (bo X T) W (RV X.K) e sl σ c H (mFn sem dfl ms ⟨sl, e.κs⟩ S) Q := p
  unfold mFn mBind at p0
  show PM (bo X T) W (RAs X.K e.vκ) e sl σ c H (ms ⟨sl, e.κs⟩ S) _
  cases hq : ms ⟨sl, e.κs⟩ S with
  | none => rw [hq] at p0; exact p0
  | some r =>
    rw [hq] at p0
    cases r with
    | er x S' => exact p0
    | ok as S' =>
      intro c1 H1 vs R1 x1 ra
      have hln := hl _ _ _ _ hq
      have p1 : PM (bo X T) W (RV X.K) e sl σ c1 H1 (sem (as ++ dfl) e.κs S') Q := by
        have p2 : PM (bo X T) W (RV X.K) e sl σ c H (sem (as ++ dfl) e.κs S') Q := p0
        cases hq2 : sem (as ++ dfl) e.κs S' with
        | none => rw [hq2] at p2; exact p2
        | some r =>
          rw [hq2] at p2
          cases r with
          | ok d S2 => exact fun c2 H2 v R2 x2 rv => p2 c2 H2 v R2 (x1.trans x2) rv
          | er x S2 => exact fun c2 H2 cls dd R2 x2 rx => p2 c2 H2 cls dd R2 (x1.trans x2) rx
      refine ⟨?_, c1, S', as ++ dfl, e.κs, e.vκ, R1.st, R1.tb, R1.ks.ext R1.ext, ra.append (h6 c1 H1).ra, pf_of R1 p1⟩
      rw [List.length_append, ← ra.length, ← (h6 c1 H1).length, hln]
      exact hn.symm
end
end Lk
set_option Elab.async false
set_option linter.all false
set_option maxRecDepth 100000
set_option maxHeartbeats 1000000
set_option autoImplicit false
namespace Lk
open PySem PySem.Spec PyProof.Rows L2 NdefX
/-! ### what is walked -/
structure Wk (K : PySem.W.Frag) (c1 : Cg) (H1 : Hp) (J : It) (ds : List D) : Prop where
  go : ∀ i c H, i < ds.length → Keeps c1 H1 c H → J.go i H
  stop : ∀ c H, Keeps c1 H1 c H → J.stop ds.length H
  yld : ∀ i c H x H', i < ds.length → Keeps c1 H1 c H → J.yld i H x H' → ∃ d c', ds[i]? = some d ∧ ExtP c H c' H' ∧ RV K c' H' d x
abbrev rI (K : PySem.W.Frag) : Cg → Hp → List D → It → Prop := fun c H ds J => Wk K c H J ds ∧ ds.length ≤ sizeLine
abbrev IE (X : Cx) (T : List NTab) (W : WX) (tg e : Expr) (m : M (List D)) : Prop := PI X tg e (TM (bo X T) W (rI X.K) m)
def signs (x : Str) : List D := x.cps.toList.map fun c => .str ⟨#[c]⟩
/-- what iterating over a value gives -/
def iterD : D → Option (List D)
  | .tup ds => some ds
  | .lst ds => some ds
  | .str x => some (signs x)
  | .dct kvs => some (kvs.map (·.1))
  | _ => none
def mIt (ma : M D) : M (List D) := mBind ma fun a => mOpt (iterD a)
section
variable {K : PySem.W.Frag} {c : Cg} {H : Hp}
theorem wk_list {p : Addr} {xs : List V} {ds : List D} (f : c.F p) (h : Rd H p (.lst xs)) (r : RVs K c H ds xs) : Wk K c H (Itl K p) ds := by
  have sq : ∀ c' H', Keeps c H c' H' → SqL K H' p xs := fun c' H' k => .inl (k.lst _ _ f h)
  refine ⟨fun i c' H' hi k => ?_, fun c' H' k => ⟨xs, sq c' H' k, by rw [r.length]; exact Nat.le_refl _⟩, fun i c' H' x H'' hi k y => ?_⟩
  · obtain ⟨v, e, _⟩ := r.get (List.getElem?_eq_getElem hi)
    exact ⟨xs, v, sq c' H' k, e⟩
  · obtain ⟨e, y⟩ := y
    subst e
    obtain ⟨d, e, rv⟩ := r.getV (y xs (sq c' _ k))
    exact ⟨d, c', e, .refl, rv.keep k⟩
theorem wk_tup {p : Addr} {xs : List V} {ds : List D} (h : H p = some (.tup xs)) (r : RVs K c H ds xs) : Wk K c H (Itt K p) ds := by
  have sq : ∀ c' H', Keeps c H c' H' → SqT K H' p xs := fun c' H' k => .of (k.tup _ _ h)
  refine ⟨fun i c' H' hi k => ?_, fun c' H' k => ⟨xs, sq c' H' k, by rw [r.length]; exact Nat.le_refl _⟩, fun i c' H' x H'' hi k y => ?_⟩
  · obtain ⟨v, e, _⟩ := r.get (List.getElem?_eq_getElem hi)
    exact ⟨xs, v, sq c' H' k, e⟩
  · obtain ⟨e, y⟩ := y
    subst e
    obtain ⟨d, e, rv⟩ := r.getV (y xs (sq c' _ k))
    exact ⟨d, c', e, .refl, rv.keep k⟩
theorem wk_str {x : Str} (o : okS x) : Wk K c H (Its x) (signs x) := by
  have hl : (signs x).length = x.cps.size := by unfold signs; rw [List.length_map, Array.length_toList]
  refine ⟨fun i c' H' hi k => by rw [hl] at hi; exact hi, fun c' H' k => by rw [hl]; exact Nat.le_refl _, fun i c' H' v H'' hi k y => ?_⟩
  obtain ⟨e, c0, e1, rfl⟩ := y
  subst e
  have e2 : x.cps.toList[i]? = some c0 := by rw [Array.getElem?_toList]; exact e1
  refine ⟨.str ⟨#[c0]⟩, c', by unfold signs; rw [List.getElem?_map, e2]; rfl, .refl, .str ?_⟩
  have h0 : atI x.cps.toList (i : Nat) = some c0 := atI_nat e2
  exact o.sign h0
theorem kD_rv {k : Key} (o : kOk k) : RV K c H (kD k) (kV k) := by
  cases k with
  | inl i => exact .int i
  | inr x => exact .str o
theorem kDs_rv : ∀ {ks : List Key}, (∀ k ∈ ks, kOk k) → RVs K c H (ks.map kD) (ks.map kV)
  | [], _ => .nil
  | k :: ks, h => .cons (kD_rv (h k List.mem_cons_self)) (kDs_rv fun k' hk => h k' (List.mem_cons_of_mem _ hk))
theorem RKs.at_ : ∀ {kvs : List (D × D)} {es : List (Key × V)} {i : Nat} {k : Key} {v : V}, RKs K c H kvs es → es[i]? = some (k, v) → ∃ d, kvs[i]? = some (kD k, d) ∧ kOk k ∧ RV K c H d v
  | _, _, _, _, _, .nil, e => by simp at e
  | _, _, 0, _, _, .cons o h r, e => by simp at e; obtain ⟨rfl, rfl⟩ := e; exact ⟨_, rfl, o, h⟩
  | _, _, i + 1, _, _, .cons _ _ r, e => RKs.at_ (i := i) r (by simpa using e)
theorem RTs.at_ : ∀ {kvs : List (D × D)} {es : List (List Key × V)} {i : Nat} {k : List Key} {v : V}, RTs K c H kvs es → es[i]? = some (k, v) → ∃ d, kvs[i]? = some (kT k, d) ∧ ksOk k ∧ RV K c H d v
  | _, _, _, _, _, .nil, e => by simp at e
  | _, _, 0, _, _, .cons o h r, e => by simp at e; obtain ⟨rfl, rfl⟩ := e; exact ⟨_, rfl, o, h⟩
  | _, _, i + 1, _, _, .cons _ _ r, e => RTs.at_ (i := i) r (by simpa using e)
theorem wk_keysK {p : Addr} {o : Obj} {kvs : List (D × D)} {es : List (Key × V)} (f : c.F p) (h : H p = some (.frz o (.dK es))) (r : RKs K c H kvs es) : Wk K c H (Itk p o es) (kvs.map (·.1)) := by
  have hl : (kvs.map (·.1)).length = es.length := by rw [List.length_map, r.length]
  refine ⟨fun i c' H' hi k => ⟨k.frz _ _ _ f h, by rw [hl] at hi; exact hi⟩, fun c' H' k => ⟨k.frz _ _ _ f h, by rw [hl]; exact Nat.le_refl _⟩, fun i c' H' x H'' hi k y => ?_⟩
  obtain ⟨e, k0, v0, e1, rfl⟩ := y
  subst e
  obtain ⟨d, e2, o2, _⟩ := r.at_ e1
  exact ⟨kD k0, c', by rw [List.getElem?_map, e2]; rfl, .refl, kD_rv o2⟩
theorem wk_keysT {p : Addr} {o : Obj} {kvs : List (D × D)} {es : List (List Key × V)} (f : c.F p) (h : H p = some (.frz o (.dT es))) (r : RTs K c H kvs es) : Wk K c H (Itkt p o es) (kvs.map (·.1)) := by
  have hl : (kvs.map (·.1)).length = es.length := by rw [List.length_map, r.length]
  refine ⟨fun i c' H' hi k => ⟨k.frz _ _ _ f h, by rw [hl] at hi; exact hi⟩, fun c' H' k => ⟨k.frz _ _ _ f h, by rw [hl]; exact Nat.le_refl _⟩, fun i c' H' x H'' hi k y => ?_⟩
  obtain ⟨e, k0, v0, q, e1, rfl, e3⟩ := y
  subst e
  obtain ⟨d, e2, o2, _⟩ := r.at_ e1
  exact ⟨kT k0, c', by rw [List.getElem?_map, e2]; rfl, .refl, .tup e3 (by rw [List.length_map]; exact o2.1) (kDs_rv o2.2)⟩
theorem wk_range {lo : Int} {n : Nat} : Wk K c H (Itr lo n) ((List.range n).map fun (i : Nat) => D.int (lo + (i : Int))) := by
  have hl : ((List.range n).map fun (i : Nat) => D.int (lo + (i : Int))).length = n := by rw [List.length_map, List.length_range]
  refine ⟨fun i c' H' hi k => by rw [hl] at hi; exact hi, fun c' H' k => by rw [hl]; exact Nat.le_refl _, fun i c' H' x H'' hi k y => ?_⟩
  obtain ⟨e, y⟩ := y
  subst e y
  rw [hl] at hi
  exact ⟨.int (lo + (i : Int)), c', by rw [List.getElem?_map, List.getElem?_range hi]; rfl, .refl, .int _⟩
end
section
variable {X : Cx} {T : List NTab} {W : WX} {tg e a b c : Expr} {es rest : List Expr} {pos p p2 : Pos} {m ma mb mc : M D} {mt mu : M Bool} {ms : M (List D)}
/-- for .. in a value -/
theorem ie_val (ha : EE X T W e ma) : IE X T W tg e (mIt ma) := by
  refine ⟨fun pins s σ H R I h => ?_⟩
  obtain ⟨e0, c0, S0, sl, R0, p⟩ := h
  have p' : PM (bo X T) W (rI X.K) e0 sl σ c0 H (mIt ma ⟨sl, e0.κs⟩ S0) R := p
  cases hq : ma ⟨sl, e0.κs⟩ S0 with
  | none => unfold mIt mBind at p'; rw [hq] at p'; exact p'.elim
  | some r =>
    cases r with
    | er x S' =>
      unfold mIt mBind at p'; rw [hq] at p'
      refine (pi_list (tg := tg) ha).run pins s σ H R I ⟨e0, c0, S0, sl, R0, ?_⟩
      rw [hq]; exact p'
    | ok d S' =>
      have p2 : PM (bo X T) W (rI X.K) e0 sl σ c0 H (mOpt (iterD d) ⟨sl, e0.κs⟩ S') R := by
        unfold mIt mBind at p'; rw [hq] at p'; exact p'
      cases d with
      | lst ds =>
        refine (pi_list (tg := tg) ha).run pins s σ H R I ⟨e0, c0, S0, sl, R0, ?_⟩
        rw [hq]
        intro c1 H1 v R1 x1 rv
        obtain ⟨q, xs, rfl, f, h1, z, r⟩ := rv.lstAt
        exact ⟨q, rfl, ⟨xs, .inl h1⟩, p2 c1 H1 _ R1 x1 ⟨wk_list f h1 r, by rw [r.length]; exact z⟩⟩
      | tup ds =>
        refine (pi_tup (tg := tg) ha).run pins s σ H R I ⟨e0, c0, S0, sl, R0, ?_⟩
        rw [hq]
        intro c1 H1 v R1 x1 rv
        obtain ⟨q, xs, rfl, h1, z, r⟩ := rv.tupAt
        exact ⟨q, rfl, ⟨xs, .of h1⟩, p2 c1 H1 _ R1 x1 ⟨wk_tup h1 r, by rw [r.length]; exact z⟩⟩
      | str x =>
        refine (pi_str (tg := tg) ha).run pins s σ H R I ⟨e0, c0, S0, sl, R0, ?_⟩
        rw [hq]
        intro c1 H1 v R1 x1 rv
        obtain ⟨rfl, o⟩ := rv.strAt
        exact ⟨_, rfl, p2 c1 H1 _ R1 x1 ⟨wk_str o, by unfold signs; rw [List.length_map, Array.length_toList]; exact o.1⟩⟩
      | dct kvs =>
        refine (pi_keys (tg := tg) ha).run pins s σ H R I ⟨e0, c0, S0, sl, R0, ?_⟩
        rw [hq]
        intro c1 H1 v R1 x1 rv
        cases rv with
        | @dK q o es _ f h1 z r => exact ⟨q, o, rfl, .inl ⟨es, h1, p2 c1 H1 _ R1 x1 ⟨wk_keysK f h1 r, by rw [List.length_map, r.length]; exact z⟩⟩⟩
        | @dT q o es _ f h1 z r => exact ⟨q, o, rfl, .inr ⟨es, h1, p2 c1 H1 _ R1 x1 ⟨wk_keysT f h1 r, by rw [List.length_map, r.length]; exact z⟩⟩⟩
      | non => exact p2.elim
      | bl b => exact p2.elim
      | int i => exact p2.elim
      | obj k => exact p2.elim
      | klst xs => exact p2.elim
      | ktup xs => exact p2.elim
      | clo j => exact p2.elim
/-- range -/
def rngD (lo hi : Int) : List D := (List.range (hi - lo).toNat).map fun (i : Nat) => D.int (lo + (i : Int))
def rng1D : D → Option (List D)
  | .int j => if j ≤ 16777216 ∧ -(2 ^ 62) ≤ j then some (rngD 0 j) else none
  | _ => none
def rng2D : D → D → Option (List D)
  | .int i, .int j => if j - i ≤ 16777216 ∧ -(2 ^ 62) ≤ i ∧ i < 2 ^ 62 ∧ -(2 ^ 62) ≤ j ∧ j < 2 ^ 62 then some (rngD i j) else none
  | _, _ => none
def mRng1 (ma : M D) : M (List D) := mBind ma fun a => mOpt (rng1D a)
def mRng2 (ma mb : M D) : M (List D) := mBind ma fun a => mBind mb fun b => mOpt (rng2D a b)
theorem rngD_len (lo hi : Int) : (rngD lo hi).length = (hi - lo).toNat := by unfold rngD; rw [List.length_map, List.length_range]
theorem ie_range1 (hg : Gl X "range") (hm : X.mg "range" = none) (ha : EE X T W a ma) (hs : starEach [a] X.env = [(false, eval a X.env)]) : IE X T W tg (.Call (.Name "range" p) [a] [] pos) (mRng1 ma) := by
  refine ⟨fun pins s σ H R I h => (pi_range1 (tg := tg) hg hm (pa_cons ha pa_nil hs) hs).run pins s σ H R I ?_⟩
  obtain ⟨e, c, S, sl, R0, p⟩ := TM.bind (r1 := RV X.K) h
  refine ⟨e, c, S, sl, R0, p.imp fun b1 H1 ⟨e, c, S, sl, d, R1, ra, p1⟩ => ?_⟩
  obtain ⟨is, hd, k⟩ := p1.opt R1
  unfold rng1D at hd
  split at hd
  · split at hd
    · rename_i j hz
      cases hd
      obtain rfl := ra.intAt
      exact ⟨j, rfl, by omega, by omega, k c H1 _ .refl ⟨by unfold rngD; rw [Int.sub_zero]; exact wk_range, by rw [rngD_len, sizeLine_eq]; omega⟩⟩
    · cases hd
  · cases hd
theorem ie_range2 (hg : Gl X "range") (hm : X.mg "range" = none) (ha : EE X T W a ma) (hb : EE X T W b mb) (hs : starEach [a, b] X.env = [(false, eval a X.env), (false, eval b X.env)]) (hs2 : starEach [b] X.env = [(false, eval b X.env)]) :
    IE X T W tg (.Call (.Name "range" p) [a, b] [] pos) (mRng2 ma mb) := by
  have hs3 : starEach [a, b] X.env = (false, eval a X.env) :: starEach [b] X.env := by rw [hs, hs2]
  refine ⟨fun pins s σ H R I h => (pi_range2 (tg := tg) hg hm (pa_cons ha (pa_cons hb pa_nil hs2) hs3) hs hs2).run pins s σ H R I ?_⟩
  obtain ⟨e, c, S, sl, R0, p⟩ := TM.bind2 (r1 := RV X.K) (r1' := RV X.K) (fun k h => h.keep k) h
  refine ⟨e, c, S, sl, R0, p.imp fun b1 H1 ⟨e, c, S, sl, R1, p1⟩ => ⟨e, c, S, sl, R1, p1.imp fun b2 H2 ⟨e, c, S, sl, a, a', R2, ra, rb, p2⟩ => ?_⟩⟩
  obtain ⟨is, hd, k⟩ := p2.opt R2
  unfold rng2D at hd
  split at hd
  · split at hd
    · rename_i i j hz
      cases hd
      obtain rfl := ra.intAt
      obtain rfl := rb.intAt
      exact ⟨i, j, rfl, ⟨by omega, by omega, by omega, by omega⟩, k c H2 _ .refl ⟨wk_range, by rw [rngD_len, sizeLine_eq]; omega⟩⟩
    · cases hd
  · cases hd
end
end Lk
set_option Elab.async false
set_option linter.all false
set_option maxRecDepth 100000
set_option maxHeartbeats 1000000
set_option autoImplicit false
namespace Lk
open PySem PySem.Spec PyProof.Rows L2 NdefX
/-! ### targets -/
mutual
inductive Tg where
  | nm (i : Nat) | tup (ts : Tgs)
inductive Tgs where
  | nil | cons (t : Tg) (ts : Tgs)
end
mutual
def bindT : Tg → D → List (Option Sl) → Option (List (Option Sl))
  | .nm i, d, sl => some (sl.set i (some (.val d)))
  | .tup ts, .tup ds, sl => bindTs ts ds sl
  | .tup _, _, _ => none
def bindTs : Tgs → List D → List (Option Sl) → Option (List (Option Sl))
  | .nil, [], sl => some sl
  | .cons t ts, d :: ds, sl => match bindT t d sl with
    | some sl' => bindTs ts ds sl'
    | none => none
  | _, _, _ => none
def Tg.ix : Tg → List Nat
  | .nm i => [i]
  | .tup ts => ts.ix
def Tgs.ix : Tgs → List Nat
  | .nil => []
  | .cons t ts => t.ix ++ ts.ix
end
def Tgs.len : Tgs → Nat
  | .nil => 0
  | .cons _ ts => ts.len + 1
mutual
def gT (K : PySem.W.Frag) : Tg → TG
  | .nm i => gName i
  | .tup ts => gTup K ts.len (gTs K ts)
def gTs (K : PySem.W.Frag) : Tgs → TGs
  | .nil => gNil
  | .cons t ts => gCons (gT K t) (gTs K ts)
end
theorem wipe_set {σ : L2.St} {i : Nat} {x : Option V} : ∀ {vs : List Nat}, i ∈ vs → wipe (σ.set i x) vs = wipe σ vs
  | v :: vs, h => by
    show (wipe (σ.set i x) vs).set v none = (wipe σ vs).set v none
    by_cases hv : i ∈ vs
    · rw [wipe_set hv]
    · have e : i = v := by
        rcases List.mem_cons.mp h with e | e
        · exact e
        · exact absurd e hv
      subst e
      have out : ∀ (vs : List Nat), i ∉ vs → wipe (σ.set i x) vs = (wipe σ vs).set i x := by
        intro vs
        induction vs with
        | nil => intro _; rfl
        | cons w ws ih =>
          intro hn
          show (wipe (σ.set i x) ws).set w none = ((wipe σ ws).set w none).set i x
          rw [ih (fun q => hn (List.mem_cons_of_mem _ q)), List.set_comm]
          exact fun q => hn (by rw [q]; exact List.mem_cons_self)
      rw [out vs hv, List.set_set]
theorem wipe_none {σ : L2.St} {i : Nat} : ∀ (vs : List Nat), wipe (σ.set i none) vs = (wipe σ vs).set i none
  | [] => rfl
  | v :: vs => by
    show (wipe (σ.set i none) vs).set v none = ((wipe σ vs).set v none).set i none
    rw [wipe_none vs]
    by_cases h : i = v
    · subst h; rfl
    · exact List.set_comm _ _ h
theorem wipe_wipe {σ : L2.St} : ∀ (vs : List Nat), wipe (wipe σ vs) vs = wipe σ vs
  | [] => rfl
  | v :: vs => by
    show (wipe ((wipe σ vs).set v none) vs).set v none = (wipe σ vs).set v none
    rw [wipe_none, wipe_wipe vs, List.set_set]
section
variable {B : Bd} {e : En} {c : Cg} {S : Sto} {sl sl' : List (Option Sl)} {σ : L2.St} {H : Hp}
theorem Slots.set {i : Nat} {d : D} {v : V} (s : Slots B e c H sl σ) (r : RV B.K c H d v) : Slots B e c H (sl.set i (some (.val d))) (σ.set i (some v)) := by
  have hl := s.len
  refine ⟨by rw [List.length_set, List.length_set, hl], fun j l q => ?_, fun j k o o' w q1 q2 q3 q4 => ?_⟩
  · by_cases hj : i = j
    · subst hj
      by_cases hlt : i < sl.length
      · rw [List.getElem?_set_self hlt] at q
        cases q
        exact ⟨v, List.getElem?_set_self (by omega), r⟩
      · rw [List.getElem?_eq_none (by rw [List.length_set]; omega)] at q; cases q
    · rw [List.getElem?_set_ne hj] at q ⊢
      exact s.at_ j l q
  · have ne : ∀ {j : Nat} {o : Ob}, (sl.set i (some (.val d)))[j]? = some (some (.own o)) → i ≠ j := by
      intro j o q z
      subst z
      by_cases hlt : i < sl.length
      · rw [List.getElem?_set_self hlt] at q; cases q
      · rw [List.getElem?_eq_none (by rw [List.length_set]; omega)] at q; cases q
    have n1 := ne q1
    have n2 := ne q2
    rw [List.getElem?_set_ne n1] at q1 q3
    rw [List.getElem?_set_ne n2] at q2 q4
    exact s.apart j k o o' w q1 q2 q3 q4
theorem Slots.drop_ {i : Nat} (s : Slots B e c H sl σ) : Slots B e c H (sl.set i none) (σ.set i none) := by
  have hl := s.len
  have ne : ∀ {j : Nat} {l : Sl}, (sl.set i none)[j]? = some (some l) → i ≠ j := by
    intro j o q z
    subst z
    by_cases hlt : i < sl.length
    · rw [List.getElem?_set_self hlt] at q; cases q
    · rw [List.getElem?_eq_none (by rw [List.length_set]; omega)] at q; cases q
  refine ⟨by rw [List.length_set, List.length_set, hl], fun j l q => ?_, fun j k o o' w q1 q2 q3 q4 => ?_⟩
  · have hj := ne q
    rw [List.getElem?_set_ne hj] at q ⊢
    exact s.at_ j l q
  · have n1 := ne q1
    have n2 := ne q2
    rw [List.getElem?_set_ne n1] at q1 q3
    rw [List.getElem?_set_ne n2] at q2 q4
    exact s.apart j k o o' w q1 q2 q3 q4
mutual
theorem gT_use : ∀ (t : Tg) {d : D} {v : V} {sl sl' : List (Option Sl)} {σ : L2.St} {Q : L2.St → Hp → Prop}, Rp B e c S sl σ H → RV B.K c H d v → bindT t d sl = some sl' →
    (∀ σ', Rp B e c S sl' σ' H → (∀ vs, (∀ i ∈ t.ix, i ∈ vs) → wipe σ' vs = wipe σ vs) → Q σ' H) → gT B.K t v σ H Q
  | .nm i, d, v, sl, sl', σ, Q, R, rv, hb, h => by
    cases hb
    exact h _ ⟨R.st, R.tb, R.ext, R.sl.set rv, R.ks⟩ fun vs hv => wipe_set (hv i (List.mem_singleton.mpr rfl))
  | .tup ts, d, v, sl, sl', σ, Q, R, rv, hb, h => by
    cases d with
    | tup ds =>
      obtain ⟨p, xs, rfl, h1, z, r⟩ := rv.tupAt
      have hb' : bindTs ts ds sl = some sl' := hb
      exact ⟨p, xs, rfl, .of h1, by rw [← r.length]; exact bindTs_len ts hb', gTs_use ts R r hb' h⟩
    | _ => cases hb
theorem gTs_use : ∀ (ts : Tgs) {ds : List D} {vs : List V} {sl sl' : List (Option Sl)} {σ : L2.St} {Q : L2.St → Hp → Prop}, Rp B e c S sl σ H → RVs B.K c H ds vs → bindTs ts ds sl = some sl' →
    (∀ σ', Rp B e c S sl' σ' H → (∀ vs, (∀ i ∈ ts.ix, i ∈ vs) → wipe σ' vs = wipe σ vs) → Q σ' H) → gTs B.K ts vs σ H Q
  | .nil, ds, vs, sl, sl', σ, Q, R, rv, hb, h => by
    cases rv with
    | nil => cases hb; exact ⟨rfl, h σ R fun _ _ => rfl⟩
    | cons => cases hb
  | .cons t ts, ds, vs, sl, sl', σ, Q, R, rv, hb, h => by
    cases rv with
    | nil => cases hb
    | @cons d v ds vs r1 rr =>
      unfold bindTs at hb
      cases hq : bindT t d sl with
      | none => rw [hq] at hb; cases hb
      | some sl1 =>
        rw [hq] at hb
        refine ⟨v, vs, rfl, gT_use t R r1 hq fun σ1 R1 w1 => gTs_use ts R1 rr hb fun σ2 R2 w2 => h σ2 R2 fun us hu => ?_⟩
        rw [w2 us fun i hi => hu i (List.mem_append_right _ hi), w1 us fun i hi => hu i (List.mem_append_left _ hi)]
theorem bindTs_len : ∀ (ts : Tgs) {ds : List D} {sl sl' : List (Option Sl)}, bindTs ts ds sl = some sl' → ds.length = ts.len
  | .nil, [], _, _, _ => rfl
  | .nil, _ :: _, _, _, h => by cases h
  | .cons _ _, [], _, _, h => by cases h
  | .cons t ts, d :: ds, sl, sl', h => by
    unfold bindTs at h
    split at h
    · exact congrArg (· + 1) (bindTs_len ts h)
    · cases h
end
end
/-! ### a container that one name alone holds, and the rest -/
section
variable {B : Bd} {c c1 : Cg} {S : Sto} {H H1 : Hp} {p : Addr} {xs : List V} {o : HO}
/-- what may be written without anyone knowing -/
structure Priv (c : Cg) (H : Hp) (p : Addr) : Prop where
  nF : ¬ c.F p
  nρ : p ∉ c.ρ
  mu : (∃ xs, H p = some (.lst xs)) ∨ (∃ es, H p = some (.dK es)) ∨ ∃ es, H p = some (.dT es)
theorem Priv.tup (a : Priv c H p) {q : Addr} {ys : List V} (h : H q = some (.tup ys)) : q ≠ p := by
  intro z
  subst z
  rcases a.mu with ⟨_, e⟩ | ⟨_, e⟩ | ⟨_, e⟩ <;> (rw [h] at e; cases e)
theorem Priv.keeps (a : Priv c H p) : Keeps c H c (upd H p o) := by
  have ne : ∀ q, c.F q → q ≠ p := fun q f z => a.nF (z ▸ f)
  refine ⟨fun _ h => h, fun _ _ h => h, fun q ys h => by rw [upd_ne (a.tup h)]; exact h, fun q ys f h => ?_, fun q ob u f h => by rw [upd_ne (ne q f)]; exact h⟩
  rcases h with h | ⟨ob, h⟩
  · exact .inl (by rw [upd_ne (ne q f)]; exact h)
  · exact .inr ⟨ob, by rw [upd_ne (ne q f)]; exact h⟩
theorem Priv.st (a : Priv c H p) (s : StOk B c S H) : StOk B c S (upd H p o) :=
  ⟨fun q f => by
    have hq : q ≠ p := fun z => a.nF (by rw [← z]; exact f)
    rw [upd_ne hq]; exact s.ff q f, s.len, s.nd, s.nf, fun k ob q e1 e2 => (s.at_ k ob q e1 e2).keep a.keeps (upd_ne fun z => a.nρ (z ▸ List.mem_of_getElem? e2))⟩
theorem Priv.ext (a : Priv c H p) (x : Ext c1 H1 c H) (n : H1 p = none) : Ext c1 H1 c (upd H p o) :=
  ⟨x.F, fun q f => by
    rcases x.Fn q f with f | ⟨f, f'⟩
    · exact .inl f
    · refine .inr ⟨f, ?_⟩
      by_cases hq : q = p
      · rw [hq, upd_same]; exact fun z => by cases z
      · rw [upd_ne hq]; exact f', x.ρ, x.ρn, fun q u e nr nt => by rw [upd_ne (fun z => by rw [z, n] at e; cases e)]; exact x.keep q u e nr nt, fun q e => by
    by_cases hq : q = p
    · rw [hq]; exact n
    · rw [upd_ne hq] at e; exact x.dom q e⟩
theorem Priv.some_ (a : Priv c H p) : H p ≠ none := by
  rcases a.mu with ⟨_, e⟩ | ⟨_, e⟩ | ⟨_, e⟩ <;> (rw [e]; exact fun z => by cases z)
theorem Priv.noObj (a : Priv c H p) {q : Addr} {u : HO} (h : H q = some u) (n1 : ∀ xs, u ≠ .lst xs) (n2 : ∀ xs, u ≠ .dK xs) (n3 : ∀ xs, u ≠ .dT xs) : q ≠ p := by
  intro z
  subst z
  rcases a.mu with ⟨_, e⟩ | ⟨_, e⟩ | ⟨_, e⟩ <;> (rw [h] at e; cases e)
  · exact n1 _ rfl
  · exact n2 _ rfl
  · exact n3 _ rfl
theorem Priv.tabs (a : Priv c H p) {T : List NTab} (t : TabsN T H) : TabsN T (upd H p o) := by
  intro q hq
  obtain ⟨ps, h1, h2, h3⟩ := t q hq
  refine ⟨ps, ?_, h2, fun pos cv e => ?_⟩
  · rw [upd_ne (a.noObj h1 (fun _ z => by cases z) (fun _ z => by cases z) (fun _ z => by cases z))]; exact h1
  · obtain ⟨d, e1, e2⟩ := h3 pos cv e
    refine ⟨d, e1, ?_⟩
    rw [upd_ne (a.noObj e2 (fun _ z => by cases z) (fun _ z => by cases z) (fun _ z => by cases z))]; exact e2
/-- it becomes frozen -/
theorem Priv.extF (a : Priv c H p) (x : Ext c1 H1 c H) (n : H1 p = none) : Ext c1 H1 (c.add p) H :=
  ⟨fun q f => .inl (x.F q f), fun q f => by
    rcases f with f | f
    · exact x.Fn q f
    · exact .inr ⟨by rw [f]; exact n, by rw [f]; exact a.some_⟩, x.ρ, x.ρn, x.keep, x.dom⟩
theorem keeps_add : Keeps c H (c.add p) H := ⟨fun _ h => .inl h, fun _ _ h => h, fun _ _ h => h, fun _ _ _ h => h, fun _ _ _ _ h => h⟩
theorem Priv.stF (a : Priv c H p) (s : StOk B c S H) : StOk B (c.add p) S H :=
  ⟨fun q f => by
    rcases f with f | f
    · exact s.ff q f
    · rw [f]; exact a.some_, s.len, s.nd, fun q hq f => by
    rcases f with f | f
    · exact s.nf q hq f
    · exact a.nρ (f ▸ hq), fun k ob q e1 e2 => (s.at_ k ob q e1 e2).keep keeps_add rfl⟩
theorem Ext.to_ {c' : Cg} {H' : Hp} (x : Ext c H c' H') (a : Priv c H p) : H' p = H p ∧ Priv c' H' p := by
  have k : ∀ u, H p = some u → (∀ ps, u ≠ .tbl ps) → H' p = some u := fun u e nt => x.keep p u e a.nρ nt
  have tot : ∀ u, H p = some u → ¬ c'.F p ∧ p ∉ c'.ρ := by
    intro u e
    refine ⟨fun z => ?_, fun z => ?_⟩
    · rcases x.Fn p z with z | ⟨z, _⟩
      · exact a.nF z
      · rw [e] at z; cases z
    · rcases x.ρn p z with z | z
      · exact a.nρ z
      · rw [e] at z; cases z
  rcases a.mu with ⟨ys, e⟩ | ⟨ys, e⟩ | ⟨ys, e⟩
  · have q := k _ e (fun ps z => by cases z)
    exact ⟨q.trans e.symm, (tot _ e).1, (tot _ e).2, .inl ⟨_, q⟩⟩
  · have q := k _ e (fun ps z => by cases z)
    exact ⟨q.trans e.symm, (tot _ e).1, (tot _ e).2, .inr (.inl ⟨_, q⟩)⟩
  · have q := k _ e (fun ps z => by cases z)
    exact ⟨q.trans e.symm, (tot _ e).1, (tot _ e).2, .inr (.inr ⟨_, q⟩)⟩
end
/-! ### list comprehensions -/
@[simp] def wipeSl (sl : List (Option Sl)) : List Nat → List (Option Sl)
  | [] => sl
  | v :: vs => (wipeSl sl vs).set v none
theorem Slots.wipe_ {B : Bd} {e : En} {c : Cg} {sl : List (Option Sl)} {σ : L2.St} {H : Hp} (s : Slots B e c H sl σ) : ∀ vs, Slots B e c H (wipeSl sl vs) (wipe σ vs)
  | [] => s
  | v :: vs => (Slots.wipe_ s vs).drop_
def compL (t : Tg) (vs : List Nat) (mt : M Bool) (me : M D) (v : Ev) : List D → List D → Sto → Option (R (List D))
  | [], acc, S => some (.ok acc S)
  | d :: ds, acc, S => match bindT t d (wipeSl v.sl vs) with
    | none => none
    | some sl => match mt ⟨sl, v.κs⟩ S with
      | some (.ok true S1) => match me ⟨sl, v.κs⟩ S1 with
        | some (.ok x S2) => compL t vs mt me v ds (acc ++ [x]) S2
        | _ => none
      | some (.ok false S1) => compL t vs mt me v ds acc S1
      | _ => none
def mComp (mi : M (List D)) (t : Tg) (vs : List Nat) (mt : M Bool) (me : M D) : M (List D) := mBind mi fun ds => fun v S => compL t vs mt me v ds [] S
abbrev WF : WX := fun _ _ _ _ => False
/-- a new list, held by nobody -/
def PMN (B : Bd) (W : WX) (e : En) (sl : List (Option Sl)) (σ : L2.St) (c : Cg) (H : Hp) (r : Option (R (List D))) (Q : VK) : Prop :=
  match r with
  | none => False
  | some (.ok ds S') => ∀ c' H' p xs, Rp B e c' S' sl σ H' → Ext c H c' H' → H p = none → ¬ c'.F p → p ∉ c'.ρ → H' p = some (.lst xs) → xs.length ≤ sizeLine → RVs B.K c' H' ds xs → Q (.ref p) H'
  | some (.er x S') => ∀ c' H' cls dd, Rp B e c' S' sl σ H' → Ext c H c' H' → RX B c' H' x cls dd → W cls dd σ H'
def TMN (B : Bd) (W : WX) (m : M (List D)) : TE := fun σ H Q => ∃ e c S sl, Rp B e c S sl σ H ∧ PMN B W e sl σ c H (m ⟨sl, e.κs⟩ S) Q
abbrev EN (X : Cx) (T : List NTab) (W : WX) (e : Expr) (m : M (List D)) : Prop := PE X e (TMN (bo X T) W m)
section
variable {X : Cx} {T : List NTab} {W : WX} {tg e a b c : Expr} {es rest : List Expr} {pos p p2 : Pos} {m ma mb mc me : M D} {mt mu : M Bool} {ms mi : M (List D)}
/-- a new list becomes a value -/
def mLs (ms : M (List D)) : M D := mBind ms fun ds => mRet (.lst ds)
theorem en_ee (h : EN X T W e ms) : EE X T W e (mLs ms) := pe_imp h fun σ H Q ⟨e, c, S, sl, R0, p⟩ => ⟨e, c, S, sl, R0, by
  have p0 : PM (bo X T) W (RV X.K) e sl σ c H (mLs ms ⟨sl, e.κs⟩ S) Q := p
  unfold mLs mBind at p0
  cases hq : ms ⟨sl, e.κs⟩ S with
  | none => rw [hq] at p0; exact p0
  | some r =>
    rw [hq] at p0
    cases r with
    | er x S' => exact p0
    | ok ds S' =>
      intro c' H' q xs R1 x1 hn nF nρ hH z r
      have a : Priv c' H' q := ⟨nF, nρ, .inl ⟨_, hH⟩⟩
      have x2 := a.extF x1 hn
      exact p0 (c'.add q) H' _ ⟨a.stF R1.st, R1.tb, R0.ext.trans x2, R0.sl.ext R0.st x2, R1.ks⟩ x2 (.lst (.inr rfl) (.inl hH) z (r.keep keeps_add))⟩
/-- the reading of a comprehension, from its meaning -/
theorem lc_of {t : Tg} {vs0 : List Nat} {σ : L2.St} {H : Hp} {Q : VK} (h : TMN (bo X T) W (mComp mi t vs0 mt me) σ H Q) (hix : ∀ i ∈ t.ix, i ∈ vs0) :
    tLc (TM (bo X T) W (rI X.K) mi) (gT X.K t) (TM (bo X T) WF relB mt) (TM (bo X T) WF (RV X.K) me) vs0 σ H Q := by
  obtain ⟨e, c, S, sl, R0, p⟩ := h
  refine ⟨e, c, S, sl, R0, ?_⟩
  obtain ⟨vs, hvs⟩ : ∃ vs, vs = vs0 := ⟨_, rfl⟩
  rw [← hvs] at p hix ⊢
  have p0 : PMN (bo X T) W e sl σ c H (mComp mi t vs mt me ⟨sl, e.κs⟩ S) Q := p
  unfold mComp mBind at p0
  show PM (bo X T) W (rI X.K) e sl σ c H (mi ⟨sl, e.κs⟩ S) _
  cases hq : mi ⟨sl, e.κs⟩ S with
  | none => rw [hq] at p0; exact p0
  | some r =>
    rw [hq] at p0
    cases r with
    | er x S' => exact p0
    | ok ds S1 =>
      intro c1 H1 J R1 x1 rj D hD
      obtain ⟨wk, zn⟩ := rj
      have p1 : PMN (bo X T) W e sl σ c H (compL t vs mt me ⟨sl, e.κs⟩ ds [] S1) Q := p0
      cases hr : compL t vs mt me ⟨sl, e.κs⟩ ds [] S1 with
      | none => rw [hr] at p1; exact p1.elim
      | some r =>
        cases r with
        | er x S2 =>
          exfalso
          have no : ∀ (l : List Lk.D) acc S, compL t vs mt me ⟨sl, e.κs⟩ l acc S ≠ some (.er x S2) := by
            intro l
            induction l with
            | nil => intro acc S q; cases q
            | cons d l ih =>
              intro acc S q
              unfold compL at q
              split at q
              · cases q
              · split at q
                · split at q
                  · exact ih _ _ q
                  · cases q
                · exact ih _ _ q
                · cases q
          exact no _ _ _ hr
        | ok res Sf =>
          rw [hr] at p1
          have HD1 : ∀ {c' : Cg} {H' : Hp} {xs : List V}, Ext c1 H1 c' H' → ¬ c'.F D → D ∉ c'.ρ → H' D = some (.lst xs) → Priv c' H' D := fun _ nF nρ e => ⟨nF, nρ, .inl ⟨_, e⟩⟩
          refine lc_it (J := J) (n := ds.length) (G := fun H => ∃ c, Keeps c1 H1 c H) (Y := fun i H x H' => ∀ c, Keeps c1 H1 c H → ∃ d c', ds[i]? = some d ∧ ExtP c H c' H' ∧ RV X.K c' H' d x)
            ⟨fun i H hi ⟨c, k⟩ => wk.go i c H hi k, fun H ⟨c, k⟩ => wk.stop c H k, fun i H x H' hi _ y c k => wk.yld i c H x H' hi k y⟩
            (fun i H' => ∃ c' S' acc accV, Ext c1 H1 c' H' ∧ StOk (bo X T) c' S' H' ∧ TabsN T H' ∧ ¬ c'.F D ∧ D ∉ c'.ρ ∧ H' D = some (.lst accV) ∧ RVs X.K c' H' acc accV ∧ accV.length ≤ i ∧
              compL t vs mt me ⟨sl, e.κs⟩ (ds.drop i) acc S' = some (.ok res Sf)) ?_ ?_ ?_ ?_
          · -- the start
            have x0 : ExtP c1 H1 c1 (upd H1 D (.lst [])) := .new hD
            refine ⟨c1, S1, [], [], x0.ext, R1.st.extP x0, tabs_extP x0 R1.tb, fun f => ?_, fun f => ?_, upd_same, .nil, Nat.le_refl _, hr⟩
            · exact R1.st.ff D f hD
            · obtain ⟨ob, q⟩ := R1.st.mem f
              obtain ⟨u, e⟩ := q.some_
              rw [hD] at e; cases e
          · intro i H' hi ⟨c', S', acc, accV, x, st, tb, nF, nρ, hH, ra, hl, hq⟩
            exact ⟨c', x.keeps R1.st⟩
          · intro i v H2 H3 hi ⟨c2, S2, acc, accV, x2, st2, tb2, nF, nρ, hH, ra, hl, hcl⟩ y
            obtain ⟨d, c3, hd, x3, rv⟩ := y c2 (x2.keeps R1.st)
            have hdrop : ds.drop i = d :: ds.drop (i + 1) := by
              obtain ⟨h1, h2⟩ := List.getElem?_eq_some_iff.mp hd
              rw [← h2]; exact List.drop_eq_getElem_cons h1
            rw [hdrop] at hcl
            unfold compL at hcl
            have a2 : Priv c2 H2 D := HD1 x2 nF nρ hH
            obtain ⟨eD3, a3⟩ := x3.ext.to_ a2
            have x13 := x2.trans x3.ext
            have R3 : Rp (bo X T) e c3 S2 sl σ H3 := R1.to x13 (st2.extP x3) (tabs_extP x3 tb2)
            have R3w : Rp (bo X T) e c3 S2 (wipeSl sl vs) (wipe σ vs) H3 := ⟨R3.st, R3.tb, R3.ext, R3.sl.wipe_ vs, R3.ks⟩
            cases hb : bindT t d (wipeSl sl vs) with
            | none => rw [hb] at hcl; cases hcl
            | some slb =>
              rw [hb] at hcl
              refine gT_use t R3w rv hb fun σb Rb wb => ⟨?_, e, c3, S2, slb, Rb, ?_⟩
              · rw [wb vs hix, wipe_wipe]
              · -- the tests
                cases hm : mt ⟨slb, e.κs⟩ S2 with
                | none => simp only [hm] at hcl; cases hcl
                | some r =>
                  cases r with
                  | er x S3 => simp only [hm] at hcl; cases hcl
                  | ok k S3 =>
                    intro c4 H4 kb R4 x4 ek
                    obtain ⟨eD4, a4⟩ := x4.to_ a3
                    have x14 := x13.trans x4
                    cases k with
                    | false =>
                      simp only [hm] at hcl
                      have ek' : false = kb := ek
                      subst ek'
                      rw [if_neg Bool.false_ne_true]
                      exact ⟨c4, S3, acc, accV, x14, R4.st, R4.tb, a4.nF, a4.nρ, by rw [eD4, eD3]; exact hH, (ra.keep x3.keeps).keep (x4.keeps R3.st), Nat.le_succ_of_le hl, hcl⟩
                    | true =>
                      simp only [hm] at hcl
                      have ek' : true = kb := ek
                      subst ek'
                      rw [if_pos rfl]
                      refine ⟨e, c4, S3, slb, R4, ?_⟩
                      cases hx : me ⟨slb, e.κs⟩ S3 with
                      | none => simp only [hx] at hcl; cases hcl
                      | some r =>
                        cases r with
                        | er x S4 => simp only [hx] at hcl; cases hcl
                        | ok x S4 =>
                          simp only [hx] at hcl
                          intro c5 H5 y R5 x5 ry
                          obtain ⟨eD5, a5⟩ := x5.to_ a4
                          have x15 := x14.trans x5
                          have hl5 : accV.length < ds.length := Nat.lt_of_le_of_lt hl hi
                          refine ⟨accV, by rw [eD5, eD4, eD3]; exact hH, Nat.lt_of_lt_of_le hl5 zn, c5, S4, acc ++ [x], accV ++ [y], a5.ext x15 hD, a5.st R5.st, a5.tabs R5.tb, a5.nF, a5.nρ, upd_same, ?_, by rw [List.length_append]; exact Nat.succ_le_succ hl, hcl⟩
                          have k5 := a5.keeps (o := .lst (accV ++ [y]))
                          exact (((ra.keep x3.keeps).keep (x4.keeps R3.st)).keep (x5.keeps R4.st)).keep k5 |>.append (.cons (ry.keep k5) .nil)
          · intro H' ⟨c', S', acc, accV, x, st, tb, nF, nρ, hH, ra, hl, hcl⟩
            rw [List.drop_length] at hcl
            cases hcl
            exact p1 c' H' D accV (R1.to x st tb) (x1.trans x) (x1.dom D hD) nF nρ hH (Nat.le_trans hl zn) ra
theorem ee_comp {elt iter : Expr} {ifs : List Expr} {scope : Scope} {own : List (Str × Nat)} {t : Tg} (hc : X.calm = true) (hN : X.N.Nodup) (hi : IE X T W tg iter mi) (ok : BlkOk X.N X.env.scope scope own)
    (hg : ∀ (s : Shared) (H : Hp) (C : Addr) (cl : List (Str × Addr)) (fp : List Addr), PG (X.blk s H scope (compEnvC scope cl C X.env) fp) tg (gT X.K t))
    (ht : ∀ (s : Shared) (H : Hp) (C : Addr) (cl : List (Str × Addr)) (fp : List Addr), PTs (X.blk s H scope (compEnvC scope cl C X.env) fp) ifs (TM (bo X T) WF relB mt))
    (he : ∀ (s : Shared) (H : Hp) (C : Addr) (cl : List (Str × Addr)) (fp : List Addr), EE (X.blk s H scope (compEnvC scope cl C X.env) fp) T WF elt me) (hs : ∀ x, foldedSetIterable iter X.env x = pure x)
    (hix : ∀ i ∈ t.ix, i ∈ own.map (·.2)) : EN X T W (.ListComp elt [⟨tg, iter, ifs, 0⟩] scope pos) (mComp mi t (own.map (·.2)) mt me) :=
  pe_imp (pe_lc (te := TM (bo X T) WF (RV X.K) me) hc hN hi ok hg ht he hs) fun σ H Q h => lc_of h hix
end
end Lk
set_option Elab.async false
set_option linter.all false
set_option maxRecDepth 100000
set_option maxHeartbeats 1000000
set_option autoImplicit false
namespace Lk
open PySem PySem.Spec PyProof.Rows L2 NdefX
/-! ### zip, enumerate: lists and tuples in any mix -/
def ItAt (k : Bool) (h : Heap) (it a : Addr) (i : Nat) : Prop := match k with
  | true => h.IsListIter it a i
  | false => h.IsTupleIter it a i
def CtAt (k : Bool) (h : Heap) (a : Addr) (its : Array Value) : Prop := match k with
  | true => h.IsList a its
  | false => h.IsTuple a its
def SqK (K : PySem.W.Frag) (H : Hp) (k : Bool) (a : Addr) (xs : List V) : Prop := match k with
  | true => SqL K H a xs
  | false => SqT K H a xs
def itO (k : Bool) (a : Addr) : Obj := match k with
  | true => { cls := .type "list_iterator", data := .fields #[.ref a, .int 0 0] }
  | false => { cls := .type "tuple_iterator", data := .fields #[.ref a, .int 0 0] }
theorem draws_k {prog : Program} {w : World} {A : Around} (hh : A.handled = none) (k : Bool) (it a : Addr) (hne : a ≠ it) (its : Array Value) :
    Draws prog w A it [it, a] its.size (fun i v => its[i]? = some v) (fun i h => ItAt k h it a i ∧ CtAt k h a its) := by
  cases k with
  | true => exact Draws.list hh it a hne its
  | false => exact Draws.tuple hh it a hne its
theorem begins_k (k : Bool) (a : Addr) (its : Array Value) : Begins (.ref a) (itO k a) fun h => CtAt k h a its := by
  cases k with
  | true => exact begins_list a its
  | false => exact begins_tuple a its
theorem ItAt.at_ {k : Bool} {h h' : Heap} {it a : Addr} {i : Nat} (x : ItAt k h it a i) (e : ∀ o, h.get? it = some o → h'.get? it = some o) : ItAt k h' it a i := by
  cases k with
  | true => exact Heap.IsListIter.at (show h.IsListIter it a i from x) e
  | false => exact Heap.IsTupleIter.at (show h.IsTupleIter it a i from x) e
theorem ItAt.obj {k : Bool} {h : Heap} {it a : Addr} {i : Nat} (x : ItAt k h it a i) : ∃ o, h.get? it = some o ∧ ∀ v, o.data ≠ .cell v := by
  cases k with
  | true => obtain ⟨o, e, _, d⟩ := (show h.IsListIter it a i from x); exact ⟨o, e, fun v q => by rw [d] at q; cases q⟩
  | false => obtain ⟨o, e, _, d⟩ := (show h.IsTupleIter it a i from x); exact ⟨o, e, fun v q => by rw [d] at q; cases q⟩
theorem itAt_0 {k : Bool} {h : Heap} {it a : Addr} (e : h.get? it = some (itO k a)) : ItAt k h it a 0 := by
  cases k with
  | true => exact ⟨_, e, rfl, rfl⟩
  | false => exact ⟨_, e, rfl, rfl⟩
section
variable {X : Cx} {pins : List (Addr × Obj)} {σ : L2.St} {H : Hp} {s : Shared}
theorem ct_k (I : Inv X pins σ H s) {k : Bool} {a : Addr} {xs : List V} (h : SqK X.K H k a xs) : ∃ its : List Value, Vals xs its ∧ CtAt k s.heap a its.toArray ∧ a < s.heap.objs.size := by
  cases k with
  | true =>
    obtain ⟨its, r, p, _⟩ := I.list (show SqL X.K H a xs from h)
    exact ⟨its, r, p.isList, p.lt⟩
  | false =>
    obtain ⟨its, r, p, _⟩ := I.tuple (show SqT X.K H a xs from h)
    exact ⟨its, r, p, p.lt⟩
end
/-- what zip gives -/
def ItzX (K : PySem.W.Frag) (k1 k2 : Bool) (a b : Addr) (xs ys : List V) : It :=
  ⟨fun i H => SqK K H k1 a xs ∧ SqK K H k2 b ys ∧ i < min xs.length ys.length,
    fun i H v H' => ∃ T x y, v = .ref T ∧ H T = none ∧ H' = upd H T (.tup [x, y]) ∧ xs[i]? = some x ∧ ys[i]? = some y,
    fun i H => SqK K H k1 a xs ∧ SqK K H k2 b ys ∧ i = min xs.length ys.length⟩
def ZipSt (k1 k2 : Bool) (a b z TI TO i1 i2 : Addr) (i : Nat) (h : Heap) : Prop :=
  IsZip h z TI TO .none ∧ IsTupOf2 h TI (.ref i1) (.ref i2) ∧ (∃ x y, IsTupOf2 h TO x y) ∧ ItAt k1 h i1 a i ∧ ItAt k2 h i2 b i
theorem turn_zipX {P : Program} {w : World} {K : PySem.W.Frag} {elts : List Expr} {kk : Nat} {tpos : Pos} {k1 k2 : Bool} {a b z TI TO i1 i2 : Addr} {xs ys : List V} (S : ZipSep2 z TI TO i1 i2 [i1, a] [i2, b]) (ha : a ≠ i1) (hb : b ≠ i2) :
    Turn P w K (.Tuple elts kk tpos) (ItzX K k1 k2 a b xs ys) [z, TI, TO, i1, i2] z (ZipSt k1 k2 a b z TI TO i1 i2) where
  mem := by simp
  obj := fun i h st c hc => by
    obtain ⟨hz, hTI, ⟨x, y, hTO⟩, h1, h2⟩ := st
    have e' : c = z ∨ c = TI ∨ c = TO ∨ c = i1 ∨ c = i2 := by simpa using hc
    rcases e' with q | q | q | q | q
    · exact q ▸ ⟨_, hz, fun v q => nomatch q⟩
    · exact q ▸ ⟨_, hTI, fun v q => nomatch q⟩
    · exact q ▸ ⟨_, hTO, fun v q => nomatch q⟩
    · exact q ▸ h1.obj
    · exact q ▸ h2.obj
  keep := fun i h h' st k => by
    obtain ⟨hz, hTI, ⟨x, y, hTO⟩, h1, h2⟩ := st
    exact ⟨k z (by simp) _ hz, k TI (by simp) _ hTI, ⟨x, y, k TO (by simp) _ hTO⟩, h1.at_ fun o q => k i1 (by simp) o q, h2.at_ fun o q => k i2 (by simp) o q⟩
  item := by
    intro X hP hw hK hc i pins s σ H E I hf st hg
    subst hP hw hK
    obtain ⟨hz, hTI, ⟨x0, y0, hTO⟩, h1, h2⟩ := st
    obtain ⟨hqx, hqy, hi⟩ := hg
    obtain ⟨its, rv, p, _⟩ := ct_k I hqx
    obtain ⟨its2, rv2, p2, _⟩ := ct_k I hqy
    have l1 := rv.length
    have l2 := rv2.length
    have hi1 : i < its.toArray.size := by rw [List.size_toArray]; omega
    have hi2 : i < its2.toArray.size := by rw [List.size_toArray]; omega
    have hh : X.A.in1.handled = none := I.ok.hd hc
    have hzl : z < s.heap.objs.size := Heap.lt_size hz
    refine wpAny_pyNext_zipD2_item S (draws_k hh k1 i1 a ha its.toArray) (draws_k hh k2 i2 b hb its2.toArray) hz hTI hTO ⟨h1, p⟩ ⟨h2, p2⟩ hi1 hi2 fun u u2 h' tk e1 e2 z' TO' st1 st2 hT hsz hk => ?_
    refine ⟨_, rfl, wpAny_letOwnedTupleGo_zip (s := { s with heap := h', toks := tk }) z' fun h'' z'' sb => ?_⟩
    have hT2 : h''.get? s.heap.objs.size = some { cls := .type "tuple", data := .seq #[u, u2] } := (sb.2 _ (Nat.ne_of_gt hzl)).trans hT
    obtain ⟨x, gx⟩ : ∃ x, xs[i]? = some x := ⟨_, List.getElem?_eq_getElem (show i < xs.length by omega)⟩
    obtain ⟨y, gy⟩ : ∃ y, ys[i]? = some y := ⟨_, List.getElem?_eq_getElem (show i < ys.length by omega)⟩
    obtain ⟨v1, g1, w1⟩ := rv.get gx
    obtain ⟨v2, g2, w2⟩ := rv2.get gy
    have q1 : v1 = u := Option.some.inj (g1.symm.trans (by simpa using e1))
    have q2 : v2 = u2 := Option.some.inj (g2.symm.trans (by simpa using e2))
    subst q1 q2
    have new : ObjOk X.prog X.w (upd H s.heap.objs.size (.tup [x, y])) h'' s.heap.objs.size (.tup [x, y]) :=
      ⟨by show 2 ≤ sizeLine; decide, [v1, v2], .cons w1 (.cons w2 .nil), ⟨_, hT2, rfl, _, rfl⟩⟩
    have nin : ∀ {c : Addr}, c ∉ [z, TI, TO, i1, i2] → c ≠ z ∧ c ≠ TO ∧ c ≠ i1 ∧ c ≠ i2 := fun hcn => by
      simp only [List.mem_cons, not_or] at hcn
      exact ⟨hcn.1, hcn.2.2.1, hcn.2.2.2.1, hcn.2.2.2.2.1⟩
    have I1 : Inv X pins σ (upd H s.heap.objs.size (.tup [x, y])) { s with heap := h'', toks := tk } :=
      I.turnedNew (t' := tk) (ch := [z, TI, TO, i1, i2]) (fun c o hcn q => (sb.2 c (nin hcn).1).trans (hk c o (nin hcn).1 (nin hcn).2.1 (nin hcn).2.2.1 (nin hcn).2.2.2 q)) hf (Nat.le_refl _) new
    refine ⟨.ref s.heap.objs.size, _, I1, rfl, ⟨_, x, y, rfl, I.hok.fresh (Nat.le_refl _), rfl, gx, gy⟩, ⟨z'', ?_, ⟨v1, v2, ?_⟩, ?_, ?_⟩, fun c hcm => ?_⟩
    · exact (sb.2 _ S.TIz).trans (hk _ _ S.TIz S.TITO S.TIi1 S.TIi2 hTI)
    · exact (sb.2 _ S.TOz).trans TO'
    · exact st1.1.at_ fun o q => (sb.2 _ (fun e => S.zf1 (by rw [← e]; exact S.mem1))).trans q
    · exact st2.1.at_ fun o q => (sb.2 _ (fun e => S.zf2 (by rw [← e]; exact S.mem2))).trans q
    · have lt : c < s.heap.objs.size := by
        have e' : c = z ∨ c = TI ∨ c = TO ∨ c = i1 ∨ c = i2 := by simpa using hcm
        rcases e' with q | q | q | q | q
        · exact q ▸ hzl
        · exact q ▸ Heap.lt_size hTI
        · exact q ▸ Heap.lt_size hTO
        · obtain ⟨_, e, _⟩ := h1.obj; exact q ▸ Heap.lt_size e
        · obtain ⟨_, e, _⟩ := h2.obj; exact q ▸ Heap.lt_size e
      rw [upd_ne (Nat.ne_of_lt lt)]
      exact (hf c hcm).1
  done := by
    intro X hP hw hK hc i pins s σ H E I hf st hg
    subst hP hw hK
    obtain ⟨hz, hTI, ⟨x0, y0, hTO⟩, h1, h2⟩ := st
    obtain ⟨hqx, hqy, hi⟩ := hg
    obtain ⟨its, rv, p, _⟩ := ct_k I hqx
    obtain ⟨its2, rv2, p2, _⟩ := ct_k I hqy
    have l1 := rv.length
    have l2 := rv2.length
    have z1 : its.toArray.size = xs.length := by rw [List.size_toArray]; exact l1.symm
    have z2 : its2.toArray.size = ys.length := by rw [List.size_toArray]; exact l2.symm
    have hh : X.A.in1.handled = none := I.ok.hd hc
    have nin : ∀ {c : Addr}, c ∉ [z, TI, TO, i1, i2] → c ≠ z ∧ c ≠ TO ∧ c ≠ i1 ∧ c ≠ i2 := fun hcn => by
      simp only [List.mem_cons, not_or] at hcn
      exact ⟨hcn.1, hcn.2.2.1, hcn.2.2.2.1, hcn.2.2.2.2.1⟩
    refine wpAny_pyNext_zipD2_end S (draws_k hh k1 i1 a ha its.toArray) (draws_k hh k2 i2 b hb its2.toArray) hz hTI hTO ⟨h1, p⟩ ⟨h2, p2⟩ (by omega) (by omega) (by omega) fun h' tk hk => ⟨rfl, ?_⟩
    exact I.turnedL (t' := tk) (ch := [z, TI, TO, i1, i2]) (fun c o hcn q => hk c o (nin hcn).1 (nin hcn).2.1 (nin hcn).2.2.1 (nin hcn).2.2.2 q) hf
  self := fun A i s Q E st h => wpAny_pyIter_zip st.1 h
def kindOf : D → Option (Bool × List D)
  | .lst ds => some (true, ds)
  | .tup ds => some (false, ds)
  | _ => none
def pairD (a b : D) : D := .tup [a, b]
def zipD (a b : D) : Option (List D) := match kindOf a, kindOf b with
  | some (_, as), some (_, bs) => some (List.zipWith pairD as bs)
  | _, _ => none
def mZip (ma mb : M D) : M (List D) := mBind ma fun a => mBind mb fun b => mOpt (zipD a b)
theorem kind_sq {K : PySem.W.Frag} {c : Cg} {H : Hp} {d : D} {v : V} {k : Bool} {ds : List D} (h : RV K c H d v) (e : kindOf d = some (k, ds)) : ∃ p xs, v = .ref p ∧ xs.length ≤ sizeLine ∧ RVs K c H ds xs ∧ ∀ c' H', Keeps c H c' H' → SqK K H' k p xs := by
  cases d <;> simp only [kindOf, reduceCtorEq, Option.some.injEq, Prod.mk.injEq] at e
  · obtain ⟨rfl, rfl⟩ := e
    obtain ⟨p, xs, rfl, h1, z, r⟩ := h.tupAt
    exact ⟨p, xs, rfl, z, r, fun c' H' k => .of (k.tup _ _ h1)⟩
  · obtain ⟨rfl, rfl⟩ := e
    obtain ⟨p, xs, rfl, f, h1, z, r⟩ := h.lstAt
    exact ⟨p, xs, rfl, z, r, fun c' H' k => .inl (k.lst _ _ f h1)⟩
theorem two_le : 2 ≤ sizeLine := by rw [sizeLine_eq]; decide
theorem wk_zip {K : PySem.W.Frag} {c : Cg} {H : Hp} {k1 k2 : Bool} {p q : Addr} {xs ys : List V} {as bs : List D} (r1 : RVs K c H as xs) (r2 : RVs K c H bs ys) (s1 : ∀ c' H', Keeps c H c' H' → SqK K H' k1 p xs) (s2 : ∀ c' H', Keeps c H c' H' → SqK K H' k2 q ys) :
    Wk K c H (ItzX K k1 k2 p q xs ys) (List.zipWith pairD as bs) := by
  have hl : (List.zipWith pairD as bs).length = min xs.length ys.length := by rw [List.length_zipWith, r1.length, r2.length]
  refine ⟨fun i c' H' hi k => ⟨s1 _ _ k, s2 _ _ k, by rw [← hl]; exact hi⟩, fun c' H' k => ⟨s1 _ _ k, s2 _ _ k, hl⟩, fun i c' H' x H'' hi k y => ?_⟩
  obtain ⟨T, x0, y0, rfl, hT, rfl, e1, e2⟩ := y
  obtain ⟨d1, g1, w1⟩ := r1.getV e1
  obtain ⟨d2, g2, w2⟩ := r2.getV e2
  have xe : ExtP c' H' c' (upd H' T (.tup [x0, y0])) := .new hT
  exact ⟨pairD d1 d2, c', by rw [List.getElem?_zipWith, g1, g2], xe, .tup upd_same two_le (.cons ((w1.keep k).keep xe.keeps) (.cons ((w2.keep k).keep xe.keeps) .nil))⟩
section
variable {X : Cx} {T : List NTab} {W : WX} {tg e a b c : Expr} {es rest : List Expr} {pos p p2 : Pos} {m ma mb mc : M D} {mt mu : M Bool} {ms : M (List D)}
theorem ie_zip {elts : List Expr} {kk : Nat} {tpos : Pos} (hg : Gl X "zip") (hm : X.mg "zip" = none) (ha : EE X T W a ma) (hb : EE X T W b mb) (hs : starEach [a, b] X.env = (false, eval a X.env) :: starEach [b] X.env) (hs2 : starEach [b] X.env = (false, eval b X.env) :: starEach [] X.env)
    (hpl : (backTo pos (starEach [b] X.env)).any (·.1) = false) : IE X T W (.Tuple elts kk tpos) (.Call (.Name "zip" p) [a, b] [] pos) (mZip ma mb) := by
  refine ⟨fun pins s σ H R I h => ?_⟩
  obtain ⟨e0, c0, S0, sl, R0, h0⟩ := TM.bind2 (r1 := RV X.K) (r1' := RV X.K) (fun k h => h.keep k) h
  have arg : (tCons (TM (bo X T) W (RV X.K) ma) (tCons (TM (bo X T) W (RV X.K) mb) tNil)) σ H fun vs H1 => ∃ e c S sl a' b' x y, vs = [x, y] ∧ Rp (bo X T) e c S sl σ H1 ∧ RV X.K c H1 a' x ∧ RV X.K c H1 b' y ∧ PM (bo X T) W (rI X.K) e sl σ c H1 (mOpt (zipD a' b') ⟨sl, e.κs⟩ S) R :=
    ⟨e0, c0, S0, sl, R0, h0.imp fun b1 H1 ⟨e, c, S, sl, R1, p1⟩ => ⟨e, c, S, sl, R1, p1.imp fun b2 H2 ⟨e, c, S, sl, a', b', R2, ra, rb, p2⟩ => ⟨e, c, S, sl, a', b', b1, b2, rfl, R2, ra, rb, p2⟩⟩⟩
  refine Call_ (ld_blt I hg hm PyProof.Rows.boot_zip (PyProof.Rows.callWith_type1 (thn ((pa_cons ha (pa_cons hb pa_nil hs2) hs).run pos pins s σ H _ I arg) fun us s1 ⟨vs, H1, I1, r1, q1⟩ => ?_) hs hpl))
  obtain ⟨e1, c1, S1, sl1, da, db, x, y, rfl, R1, ra, rb, pz⟩ := q1
  obtain ⟨ds, hd, k⟩ := pz.opt R1
  unfold zipD at hd
  split at hd
  · rename_i k1 as k2 bs hk1 hk2
    cases hd
    obtain ⟨q1, xs, rfl, z1, rs1, s1'⟩ := kind_sq ra hk1
    obtain ⟨q2, ys, rfl, z2, rs2, s2'⟩ := kind_sq rb hk2
    obtain ⟨u1, u2, rfl, w1, w2⟩ := vals2 r1
    obtain rfl : u1 = .ref q1 := w1
    obtain rfl : u2 = .ref q2 := w2
    obtain ⟨its, rv, p1, lt1⟩ := ct_k I1 (s1' _ _ .refl)
    obtain ⟨its2, rv2, p2, lt2⟩ := ct_k I1 (s2' _ _ .refl)
    refine zip_begins2 (begins_k k1 q1 its.toArray) (begins_k k2 q2 its2.toArray) p1 p2 fun h' hz hTI hTO g1 g2 hsz hkp => wpAny_pyIter_zip hz ?_
    have I2 : Inv X pins σ H1 { s1 with heap := h' } := I1.kept (t' := s1.toks) hkp
    have sep := zip_sep2 (N := s1.heap.objs.size) (fp1 := [q1]) (fp2 := [q2]) (fun b hb => by rw [List.mem_singleton.mp hb]; exact lt1) (fun b hb => by rw [List.mem_singleton.mp hb]; exact lt2)
    refine ⟨s1.heap.objs.size + 4, [s1.heap.objs.size + 4, s1.heap.objs.size + 2, s1.heap.objs.size + 3, s1.heap.objs.size, s1.heap.objs.size + 1], _, _, H1, rfl, I2, turn_zipX (k1 := k1) (k2 := k2) (xs := xs) (ys := ys) sep (Nat.ne_of_lt lt1) (Nat.ne_of_lt (Nat.lt_succ_of_lt lt2)), ⟨hz, hTI, ⟨_, _, hTO⟩, itAt_0 g1, itAt_0 g2⟩, fun c hcm => ?_, ?_⟩
    · have hle : s1.heap.objs.size ≤ c := by
        have e' : c = s1.heap.objs.size + 4 ∨ c = s1.heap.objs.size + 2 ∨ c = s1.heap.objs.size + 3 ∨ c = s1.heap.objs.size ∨ c = s1.heap.objs.size + 1 := by simpa using hcm
        rcases e' with z | z | z | z | z <;> (rw [z]; first | exact Nat.le_add_right _ _ | exact Nat.le_refl _)
      exact I1.fpOk hle (I1.hok.fresh hle)
    · exact k c1 H1 _ .refl ⟨wk_zip rs1 rs2 s1' s2', by rw [List.length_zipWith, rs1.length, rs2.length]; exact Nat.le_trans (Nat.min_le_left _ _) z1⟩
  · cases hd
end
end Lk
set_option Elab.async false
set_option linter.all false
set_option maxRecDepth 100000
set_option maxHeartbeats 1000000
set_option autoImplicit false
namespace Lk
open PySem PySem.Spec PyProof.Rows L2 NdefX
/-! ### statements and what they mean -/
inductive FlR where
  | nx (sl : List (Option Sl)) (S : Sto) | bk (sl : List (Option Sl)) (S : Sto) | ct (sl : List (Option Sl)) (S : Sto)
  | rt (d : D) (S : Sto) | er (x : Exc) (sl : List (Option Sl)) (S : Sto)
abbrev MS := Ev → Sto → Option FlR
def PSt (B : Bd) (W : WX) (e : En) (c : Cg) (H : Hp) (r : Option FlR) (Z : Ends) : Prop :=
  match r with
  | none => False
  | some (.nx sl S) => ∀ c' H' σ', Rp B e c' S sl σ' H' → Keeps c H c' H' → Z.nx σ' H'
  | some (.bk sl S) => ∀ c' H' σ', Rp B e c' S sl σ' H' → Keeps c H c' H' → Z.bk σ' H'
  | some (.ct sl S) => ∀ c' H' σ', Rp B e c' S sl σ' H' → Keeps c H c' H' → Z.ct σ' H'
  | some (.rt d S) => ∀ c' H' v, StOk B c' S H' → TabsN B.T H' → Ext e.c0 e.H0 c' H' → RV B.K c' H' d v → Z.rt v H'
  | some (.er x sl S) => ∀ c' H' cls dd σ', Rp B e c' S sl σ' H' → Keeps c H c' H' → RX B c' H' x cls dd → W cls dd σ' H'
def TSm (B : Bd) (W : WX) (m : MS) : TS := fun Z σ H => ∃ e c S sl, Rp B e c S sl σ H ∧ PSt B W e c H (m ⟨sl, e.κs⟩ S) Z
abbrev SS (X : Cx) (T : List NTab) (W : WX) (st : Stmt) (m : MS) : Prop := PS X st (TSm (bo X T) W m)
abbrev SB (X : Cx) (T : List NTab) (W : WX) (sts : List Stmt) (m : MS) : Prop := PSs X sts (TSm (bo X T) W m)
theorem ps_imp {X : Cx} {st : Stmt} {t t' : TS} (h : PS X st t) (i : ∀ Z σ H, t' Z σ H → t Z σ H) : PS X st t' := ⟨fun pins s σ H Z I q => h.run pins s σ H Z I (i _ _ _ q)⟩
theorem pss_imp {X : Cx} {st : List Stmt} {t t' : TS} (h : PSs X st t) (i : ∀ Z σ H, t' Z σ H → t Z σ H) : PSs X st t' := ⟨fun pins s σ H Z I q => h.run pins s σ H Z I (i _ _ _ q)⟩
def mSkip : MS := fun v S => some (.nx v.sl S)
def mSeq (m1 m2 : MS) : MS := fun v S => match m1 v S with
  | some (.nx sl S') => m2 ⟨sl, v.κs⟩ S'
  | r => r
def mThen {α : Type} (m : M α) (k : α → MS) : MS := fun v S => match m v S with
  | none => none
  | some (.er x S') => some (.er x v.sl S')
  | some (.ok a S') => k a v S'
def mNx (f : List (Option Sl) → Option (List (Option Sl))) : MS := fun v S => match f v.sl with
  | none => none
  | some sl => some (.nx sl S)
section
variable {B : Bd} {W : WX} {e : En} {c c1 : Cg} {H H1 : Hp} {Z : Ends}
theorem PSt.mono {r : Option FlR} (k : Keeps c H c1 H1) (p : PSt B W e c H r Z) : PSt B W e c1 H1 r Z := by
  cases r with
  | none => exact p
  | some r =>
    cases r with
    | nx sl S => exact fun c' H' σ' R k' => p c' H' σ' R (k.trans k')
    | bk sl S => exact fun c' H' σ' R k' => p c' H' σ' R (k.trans k')
    | ct sl S => exact fun c' H' σ' R k' => p c' H' σ' R (k.trans k')
    | rt d S => exact p
    | er x sl S => exact fun c' H' cls dd σ' R k' => p c' H' cls dd σ' R (k.trans k')
theorem PSt.seq {m1 m2 : MS} {v : Ev} {S : Sto} (hk : v.κs = e.κs) (p : PSt B W e c H (mSeq m1 m2 v S) Z) : PSt B W e c H (m1 v S) { Z with nx := TSm B W m2 Z } := by
  unfold mSeq at p
  cases q : m1 v S with
  | none => rw [q] at p; exact p
  | some r =>
    rw [q] at p
    cases r with
    | nx sl S' =>
      have p' : PSt B W e c H (m2 ⟨sl, v.κs⟩ S') Z := p
      rw [hk] at p'
      exact fun c' H' σ' R k' => ⟨e, c', S', sl, R, p'.mono k'⟩
    | bk sl S => exact p
    | ct sl S => exact p
    | rt d S => exact p
    | er x sl S => exact p
theorem PSt.thn {α β : Type} {r1 : Cg → Hp → α → β → Prop} {m : M α} {k : α → MS} {sl : List (Option Sl)} {σ : L2.St} {S : Sto} (R0 : Rp B e c S sl σ H)
    (p : PSt B W e c H (mThen m k ⟨sl, e.κs⟩ S) Z) : PM B W r1 e sl σ c H (m ⟨sl, e.κs⟩ S) fun b H1 => ∃ c1 S1 a, Rp B e c1 S1 sl σ H1 ∧ Keeps c H c1 H1 ∧ r1 c1 H1 a b ∧ PSt B W e c1 H1 (k a ⟨sl, e.κs⟩ S1) Z := by
  unfold mThen at p
  cases q : m ⟨sl, e.κs⟩ S with
  | none => rw [q] at p; exact p
  | some r =>
    rw [q] at p
    cases r with
    | er x S' => exact fun c' H' cls dd R1 x1 rx => p c' H' cls dd σ R1 (x1.keeps R0.st) rx
    | ok a S' =>
      have p' : PSt B W e c H (k a ⟨sl, e.κs⟩ S') Z := p
      exact fun c' H' b R1 x1 rb => ⟨c', S', a, R1, x1.keeps R0.st, rb, p'.mono (x1.keeps R0.st)⟩
end
section
variable {X : Cx} {T : List NTab} {W : WX} {st : Stmt} {sts body orelse : List Stmt} {a b cnd tg iter : Expr} {es : List Expr} {pos : Pos} {m : M D} {mt : M Bool} {mi ms : M (List D)} {m1 m2 : MS}
theorem sb_nil : SB X T W [] mSkip := pss_imp pss_nil fun Z σ H ⟨e, c, S, sl, R0, p⟩ => p c H σ R0 .refl
theorem sb_cons (h1 : SS X T W st m1) (h2 : SB X T W sts m2) : SB X T W (st :: sts) (mSeq m1 m2) := pss_imp (pss_cons h1 h2) fun Z σ H ⟨e, c, S, sl, R0, p⟩ => ⟨e, c, S, sl, R0, p.seq rfl⟩
theorem sb_one (h1 : SS X T W st m1) : SB X T W [st] m1 := pss_one h1
/-- behind a return nothing is read -/
theorem sb_ghost {f : MS} (h : SB X T W sts m2) (hf : ∀ Z σ H, TSm (bo X T) W (mSeq f m2) Z σ H → TSm (bo X T) W m2 Z σ H) : SB X T W sts (mSeq f m2) := pss_imp h hf
theorem ss_pass : SS X T W (.Pass pos) mSkip := ps_imp ps_pass fun Z σ H ⟨e, c, S, sl, R0, p⟩ => p c H σ R0 .refl
theorem ss_doc {x : Str} {j : Nat} {p2 : Pos} : SS X T W (.Expr (.Constant (.str x) j pos) p2) mSkip := ps_imp ps_doc fun Z σ H ⟨e, c, S, sl, R0, p⟩ => p c H σ R0 .refl
def mBrk : MS := fun v S => some (.bk v.sl S)
def mCnt : MS := fun v S => some (.ct v.sl S)
def mStuck : MS := fun _ _ => none
theorem ss_break : SS X T W (.Break pos) mBrk := ps_imp ps_break fun Z σ H ⟨e, c, S, sl, R0, p⟩ => p c H σ R0 .refl
theorem ss_cont : SS X T W (.Continue pos) mCnt := ps_imp ps_continue fun Z σ H ⟨e, c, S, sl, R0, p⟩ => p c H σ R0 .refl
theorem ss_stuck : SS X T W st mStuck := ps_imp ps_never fun Z σ H ⟨e, c, S, sl, R0, p⟩ => p
/-- return -/
def mRtn (m : M D) : MS := mThen m fun d _ S => some (.rt d S)
theorem ss_ret (h : EE X T W a m) : SS X T W (.Return (some a) pos) (mRtn m) := ps_imp (ps_ret h) fun Z σ H ⟨e, c, S, sl, R0, p⟩ =>
  ⟨e, c, S, sl, R0, (PSt.thn (r1 := RV X.K) R0 p).imp fun v H1 ⟨c1, S1, d, R1, _, rv, p1⟩ => p1 c1 H1 v R1.st R1.tb R1.ext rv⟩
theorem ss_retN : SS X T W (.Return none pos) (mRtn (mRet .non)) := ps_imp ps_retN fun Z σ H ⟨e, c, S, sl, R0, p⟩ => p c H .non R0.st R0.tb R0.ext .non
/-- an expression whose value is dropped -/
def mDrop (m : M D) : MS := mThen m fun _ => mSkip
theorem ss_expr (h : EE X T W a m) (hs : swapsWith a none pos.line X.env = pure false) : SS X T W (.Expr a pos) (mDrop m) := ps_imp (ps_expr h hs) fun Z σ H ⟨e, c, S, sl, R0, p⟩ =>
  ⟨e, c, S, sl, R0, (PSt.thn (r1 := RV X.K) R0 p).imp fun v H1 ⟨c1, S1, d, R1, _, rv, p1⟩ => p1 c1 H1 σ R1 .refl⟩
/-- if -/
def mIfS (mt : M Bool) (m1 m2 : MS) : MS := mThen mt fun k => if k then m1 else m2
theorem ss_if (hc : ET X T W cnd mt) (ha : SB X T W body m1) (hb : SB X T W orelse m2) : SS X T W (.If cnd body orelse pos) (mIfS mt m1 m2) := ps_imp (ps_if hc ha hb) fun Z σ H ⟨e, c, S, sl, R0, p⟩ =>
  ⟨e, c, S, sl, R0, (PSt.thn (r1 := relB) R0 p).imp fun v H1 ⟨c1, S1, d, R1, _, rv, p1⟩ => by
    have rv' : d = v := rv
    subst rv'
    cases d with
    | true => rw [if_pos rfl]; exact ⟨e, c1, S1, sl, R1, p1⟩
    | false => rw [if_neg Bool.false_ne_true]; exact ⟨e, c1, S1, sl, R1, p1⟩⟩
/-! ### assignments -/
/-- name = value -/
def mSet (i : Nat) (m : M D) : MS := mThen m fun d => mNx fun sl => some (sl.set i (some (.val d)))
theorem ss_setG {te : TE} {i : Nat} (h : PS X st (tAsg te (gName i))) (hi : ∀ σ H Q, TM (bo X T) W (RV X.K) m σ H Q → te σ H Q) : SS X T W st (mSet i m) := ps_imp h fun Z σ H ⟨e, c, S, sl, R0, p⟩ =>
  hi _ _ _ ⟨e, c, S, sl, R0, (PSt.thn (r1 := RV X.K) R0 p).imp fun v H1 ⟨c1, S1, d, R1, _, rv, p1⟩ => p1 c1 H1 _ ⟨R1.st, R1.tb, R1.ext, R1.sl.set rv, R1.ks⟩ .refl⟩
theorem ss_set {i : Nat} {x : Str} {p2 : Pos} (hN : X.N.Nodup) (hi : X.N[i]? = some x) (hx : Loc X.env.scope x) (ha : EE X T W a m) (hs : swapsWith a (some (.Name x p2)) pos.line X.env = pure false) (hf : X.fn x = true ∨ X.env.scope.names.lookup x = some .local) :
    SS X T W (.Assign [.Name x p2] a pos) (mSet i m) := ss_setG (ps_set hN hi hx ha hs hf) fun _ _ _ h => h
/-- (a, b) = value -/
def mSetT (t : Tg) (m : M D) : MS := mThen m fun d => mNx (bindT t d)
theorem ss_setT {t : Tg} (ha : EE X T W a m) (hg : PG X tg (gT X.K t)) (hs : swapsWithSole [tg] a pos.line X.env = pure false) (hw : swappedStores [tg] a X.env = pure none) (h1 : (assignEach [tg] X.env).map (·.2) = [assign tg X.env]) :
    SS X T W (.Assign [tg] a pos) (mSetT t m) := ps_imp (ps_asg ha hg hs hw h1) fun Z σ H ⟨e, c, S, sl, R0, p⟩ =>
  ⟨e, c, S, sl, R0, (PSt.thn (r1 := RV X.K) R0 p).imp fun v H1 ⟨c1, S1, d, R1, _, rv, p1⟩ => by
    unfold mNx at p1
    cases hb : bindT t d sl with
    | none => rw [hb] at p1; exact p1.elim
    | some sl' =>
      rw [hb] at p1
      exact gT_use t R1 rv hb fun σ' R2 _ => p1 c1 H1 σ' R2 .refl⟩
/-! ### new containers -/
def PMO (B : Bd) (W : WX) (e : En) (sl : List (Option Sl)) (σ : L2.St) (c : Cg) (H : Hp) (r : Option (R Ob)) (Q : VK) : Prop :=
  match r with
  | none => False
  | some (.ok o S') => ∀ c' H' p, Rp B e c' S' sl σ H' → Ext c H c' H' → H p = none → ¬ c'.F p → p ∉ c'.ρ → ObAt B c' H' p o → Q (.ref p) H'
  | some (.er x S') => ∀ c' H' cls dd, Rp B e c' S' sl σ H' → Ext c H c' H' → RX B c' H' x cls dd → W cls dd σ H'
def TMO (B : Bd) (W : WX) (m : M Ob) : TE := fun σ H Q => ∃ e c S sl, Rp B e c S sl σ H ∧ PMO B W e sl σ c H (m ⟨sl, e.κs⟩ S) Q
abbrev EO' (X : Cx) (T : List NTab) (W : WX) (a : Expr) (m : M Ob) : Prop := PE X a (TMO (bo X T) W m)
def mObL (ms : M (List D)) : M Ob := mBind ms fun ds => mRet (.lst ds)
theorem obL_of {B : Bd} {W : WX} {σ : L2.St} {H : Hp} {Q : VK} (h : TMO B W (mObL ms) σ H Q) : TMN B W ms σ H Q := by
  obtain ⟨e, c, S, sl, R0, p⟩ := h
  refine ⟨e, c, S, sl, R0, ?_⟩
  have p0 : PMO B W e sl σ c H (mObL ms ⟨sl, e.κs⟩ S) Q := p
  unfold mObL mBind at p0
  cases hq : ms ⟨sl, e.κs⟩ S with
  | none => rw [hq] at p0; exact p0
  | some r =>
    rw [hq] at p0
    cases r with
    | er x S' => exact p0
    | ok ds S' => exact fun c' H' q xs R1 x1 hn nF nρ hH z r => p0 c' H' q R1 x1 hn nF nρ ⟨xs, hH, z, r⟩
theorem eo_of (h : EN X T W a ms) : EO' X T W a (mObL ms) := pe_imp h fun _ _ _ h => obL_of h
/-- a new list as a value, by its reading -/
theorem ls_of {B : Bd} {W : WX} {σ : L2.St} {H : Hp} {Q : VK} (h : TM B W (RV B.K) (mLs ms) σ H Q) : TMN B W ms σ H Q := by
  obtain ⟨e, c, S, sl, R0, p⟩ := h
  refine ⟨e, c, S, sl, R0, ?_⟩
  have p0 : PM B W (RV B.K) e sl σ c H (mLs ms ⟨sl, e.κs⟩ S) Q := p
  unfold mLs mBind at p0
  cases hq : ms ⟨sl, e.κs⟩ S with
  | none => rw [hq] at p0; exact p0
  | some r =>
    rw [hq] at p0
    cases r with
    | er x S' => exact p0
    | ok ds S' =>
      intro c' H' q xs R1 x1 hn nF nρ hH z r
      have a : Priv c' H' q := ⟨nF, nρ, .inl ⟨_, hH⟩⟩
      have x2 := a.extF x1 hn
      exact p0 (c'.add q) H' _ ⟨a.stF R1.st, R1.tb, R0.ext.trans x2, R0.sl.ext R0.st x2, R1.ks⟩ x2 (.lst (.inr rfl) (.inl hH) z (r.keep keeps_add))
/-- a slot is set: what it held is forgotten -/
theorem Slots.put {B : Bd} {e : En} {c : Cg} {sl : List (Option Sl)} {σ : L2.St} {H : Hp} {i : Nat} {l : Sl} {v : V} (s : Slots B e c H sl σ) (r : SlAt B e c H l v)
    (ap : ∀ (o : Ob) (j : Nat) (o' : Ob), l = .own o → sl[j]? = some (some (.own o')) → σ[j]? ≠ some (some v)) : Slots B e c H (sl.set i (some l)) (σ.set i (some v)) := by
  have hl := s.len
  have cs : ∀ {j : Nat} {l' : Sl}, (sl.set i (some l))[j]? = some (some l') → (i = j ∧ l' = l ∧ i < sl.length) ∨ (i ≠ j ∧ sl[j]? = some (some l')) := by
    intro j l' q
    by_cases hj : i = j
    · subst hj
      by_cases hlt : i < sl.length
      · rw [List.getElem?_set_self hlt] at q; cases q; exact .inl ⟨rfl, rfl, hlt⟩
      · rw [List.getElem?_eq_none (by rw [List.length_set]; omega)] at q; cases q
    · rw [List.getElem?_set_ne hj] at q; exact .inr ⟨hj, q⟩
  refine ⟨by rw [List.length_set, List.length_set, hl], fun j l' q => ?_, fun j k o o' w q1 q2 q3 q4 => ?_⟩
  · rcases cs q with ⟨rfl, rfl, hlt⟩ | ⟨hj, q⟩
    · exact ⟨v, List.getElem?_set_self (by omega), r⟩
    · rw [List.getElem?_set_ne hj]; exact s.at_ j l' q
  · rcases cs q1 with ⟨e1, e1', h1⟩ | ⟨n1, q1⟩ <;> rcases cs q2 with ⟨e2, e2', h2⟩ | ⟨n2, q2⟩
    · exact e1.symm.trans e2
    · subst e1
      rw [List.getElem?_set_self (by omega)] at q3
      rw [List.getElem?_set_ne n2] at q4
      cases q3
      exact absurd q4 (ap o k o' e1'.symm q2)
    · subst e2
      rw [List.getElem?_set_self (by omega)] at q4
      rw [List.getElem?_set_ne n1] at q3
      cases q4
      exact absurd q3 (ap o' j o e2'.symm q1)
    · rw [List.getElem?_set_ne n1] at q3
      rw [List.getElem?_set_ne n2] at q4
      exact s.apart j k o o' w q1 q2 q3 q4
/-- what was not there is none of the slots' containers -/
theorem Slots.fresh {B : Bd} {e : En} {c : Cg} {sl : List (Option Sl)} {σ : L2.St} {H : Hp} (s : Slots B e c H sl σ) {p : Addr} (hp : H p = none) (j : Nat) (o : Ob) (h : sl[j]? = some (some (.own o))) : σ[j]? ≠ some (some (.ref p)) := by
  intro z
  obtain ⟨v, h1, p0, rfl, _, _, _, ob⟩ := s.at_ j _ h
  rw [h1] at z
  cases z
  obtain ⟨u, e⟩ := ob.some_
  rw [hp] at e; cases e
/-- name = a new container -/
def mSetO (i : Nat) (m : M Ob) : MS := mThen m fun o => mNx fun sl => some (sl.set i (some (.own o)))
theorem PSt.thnO {B : Bd} {W : WX} {e : En} {c : Cg} {H : Hp} {Z : Ends} {m : M Ob} {k : Ob → MS} {sl : List (Option Sl)} {σ : L2.St} {S : Sto} (R0 : Rp B e c S sl σ H)
    (p : PSt B W e c H (mThen m k ⟨sl, e.κs⟩ S) Z) : PMO B W e sl σ c H (m ⟨sl, e.κs⟩ S) fun v H1 => ∃ c1 S1 o p1, v = .ref p1 ∧ Rp B e c1 S1 sl σ H1 ∧ Keeps c H c1 H1 ∧ SlAt B e c1 H1 (.own o) v ∧
      (∀ (j : Nat) o', sl[j]? = some (some (.own o')) → σ[j]? ≠ some (some v)) ∧ PSt B W e c1 H1 (k o ⟨sl, e.κs⟩ S1) Z := by
  unfold mThen at p
  cases q : m ⟨sl, e.κs⟩ S with
  | none => rw [q] at p; exact p
  | some r =>
    rw [q] at p
    cases r with
    | er x S' => exact fun c' H' cls dd R1 x1 rx => p c' H' cls dd σ R1 (x1.keeps R0.st) rx
    | ok o S' =>
      have p' : PSt B W e c H (k o ⟨sl, e.κs⟩ S') Z := p
      exact fun c' H' b R1 x1 hn nF nρ ob => ⟨c', S', o, b, rfl, R1, x1.keeps R0.st, ⟨b, rfl, nF, nρ, R0.ext.dom b hn, ob⟩, R0.sl.fresh hn, p'.mono (x1.keeps R0.st)⟩
theorem PMO.imp {B : Bd} {W : WX} {e : En} {sl : List (Option Sl)} {σ : L2.St} {c : Cg} {H : Hp} {r : Option (R Ob)} {Q Q' : VK} (p : PMO B W e sl σ c H r Q) (h : ∀ v H', Q v H' → Q' v H') : PMO B W e sl σ c H r Q' := by
  cases r with
  | none => exact p
  | some r =>
    cases r with
    | ok a S' => exact fun c' H' b R1 x1 a1 a2 a3 a4 => h _ H' (p c' H' b R1 x1 a1 a2 a3 a4)
    | er x S' => exact p
theorem ss_setOG {te : TE} {i : Nat} {mo : M Ob} (h : PS X st (tAsg te (gName i))) (hi : ∀ σ H Q, TMO (bo X T) W mo σ H Q → te σ H Q) : SS X T W st (mSetO i mo) := ps_imp h fun Z σ H ⟨e, c, S, sl, R0, p⟩ =>
  hi _ _ _ ⟨e, c, S, sl, R0, (PSt.thnO R0 p).imp fun v H1 ⟨c1, S1, o, p1, ev, R1, _, ra, ap, pk⟩ => pk c1 H1 _ ⟨R1.st, R1.tb, R1.ext, R1.sl.put ra fun _ j o' _ h => ap j o' h, R1.ks⟩ .refl⟩
theorem ss_setO {i : Nat} {x : Str} {p2 : Pos} {mo : M Ob} (hN : X.N.Nodup) (hi : X.N[i]? = some x) (hx : Loc X.env.scope x) (ha : EO' X T W a mo) (hs : swapsWith a (some (.Name x p2)) pos.line X.env = pure false) (hf : X.fn x = true ∨ X.env.scope.names.lookup x = some .local) :
    SS X T W (.Assign [.Name x p2] a pos) (mSetO i mo) := ss_setOG (ps_set hN hi hx ha hs hf) fun _ _ _ h => h
/-- a container becomes a shared object, and is handed back -/
def mRtnO (m : M Ob) : MS := mThen m fun o _ S => some (.rt (.obj S.length) (S ++ [o]))
theorem ss_retO {mo : M Ob} (h : EO' X T W a mo) : SS X T W (.Return (some a) pos) (mRtnO mo) := ps_imp (ps_ret h) fun Z σ H ⟨e, c, S, sl, R0, p⟩ =>
  ⟨e, c, S, sl, R0, (PSt.thnO R0 p).imp fun v H1 ⟨c1, S1, o, p1, ev, R1, _, ra, ap, pk⟩ => by
    obtain ⟨q, rfl, nF, nρ, n0, ob⟩ := ra
    clear ev
    have kp : Keeps c1 H1 { c1 with ρ := c1.ρ ++ [q] } H1 := ⟨fun _ h => h, fun k p h => by
      show (c1.ρ ++ [q])[k]? = some p
      rw [List.getElem?_append_left (by have := (List.getElem?_eq_some_iff.mp h).1; exact this)]; exact h, fun _ _ h => h, fun _ _ _ h => h, fun _ _ _ _ h => h⟩
    refine pk { c1 with ρ := c1.ρ ++ [q] } H1 (.ref q) ⟨R1.st.ff, ?_, ?_, ?_, ?_⟩ R1.tb ⟨R1.ext.F, R1.ext.Fn, ?_, ?_, R1.ext.keep, R1.ext.dom⟩ ?_
    · show (S1 ++ [o]).length = (c1.ρ ++ [q]).length
      rw [List.length_append, List.length_append, R1.st.len]; rfl
    · show (c1.ρ ++ [q]).Nodup
      rw [List.nodup_append]
      exact ⟨R1.st.nd, by simp, fun x hx y hy z => nρ (by rw [List.mem_singleton.mp hy] at z; rw [← z]; exact hx)⟩
    · intro x hx
      rcases List.mem_append.mp hx with hx | hx
      · exact R1.st.nf x hx
      · rw [List.mem_singleton.mp hx]; exact nF
    · intro k ob' p' e1 e2
      have e2 : (c1.ρ ++ [q])[k]? = some p' := e2
      by_cases hk : k < S1.length
      · rw [List.getElem?_append_left hk] at e1
        rw [List.getElem?_append_left (by rw [← R1.st.len]; exact hk)] at e2
        exact (R1.st.at_ k ob' p' e1 e2).keep kp rfl
      · have hk' : k = S1.length := by
          have := (List.getElem?_eq_some_iff.mp e1).1
          rw [List.length_append] at this
          have h1 : ([o] : List Ob).length = 1 := rfl
          omega
        subst hk'
        rw [List.getElem?_append_right (Nat.le_refl _), Nat.sub_self] at e1
        rw [R1.st.len, List.getElem?_append_right (Nat.le_refl _), Nat.sub_self] at e2
        cases e1
        cases e2
        exact ob.keep kp rfl
    · intro k p' h
      exact kp.ρ k p' (R1.ext.ρ k p' h)
    · intro x hx
      rcases List.mem_append.mp hx with hx | hx
      · exact R1.ext.ρn x hx
      · rw [List.mem_singleton.mp hx]; exact .inr n0
    · refine .obj ?_
      show (c1.ρ ++ [q])[S1.length]? = some q
      rw [R1.st.len, List.getElem?_append_right (Nat.le_refl _), Nat.sub_self]
      rfl⟩
/-! ### a, b = x, y -/
def D.isK : D → Bool
  | .klst _ => true
  | .ktup _ => true
  | _ => false
def NAt (B : Bd) (Hs : Hp) (c : Cg) (H : Hp) : Sl → V → Prop
  | .val d, v => RV B.K c H d v ∧ d.isK = false
  | .own o, v => ∃ p, v = .ref p ∧ Hs p = none ∧ ¬ c.F p ∧ p ∉ c.ρ ∧ ObAt B c H p o
  | .clo _, _ => False
inductive NAs (B : Bd) (Hs : Hp) (c : Cg) (H : Hp) : List Sl → List V → Prop
  | nil : NAs B Hs c H [] []
  | cons {l : Sl} {v : V} {ls : List Sl} {vs : List V} : NAt B Hs c H l v → (∀ o, l = .own o → v ∉ vs) → NAs B Hs c H ls vs → NAs B Hs c H (l :: ls) (v :: vs)
def PMS (B : Bd) (W : WX) (e : En) (sl : List (Option Sl)) (σ : L2.St) (c : Cg) (H : Hp) (r : Option (R (List Sl))) (Q : List V → Hp → Prop) : Prop :=
  match r with
  | none => False
  | some (.ok ls S') => ∀ c' H' vs, Rp B e c' S' sl σ H' → Ext c H c' H' → NAs B H c' H' ls vs → Q vs H'
  | some (.er x S') => ∀ c' H' cls dd, Rp B e c' S' sl σ H' → Ext c H c' H' → RX B c' H' x cls dd → W cls dd σ H'
def TMS (B : Bd) (W : WX) (m : M (List Sl)) : TA := fun σ H Q => ∃ e c S sl, Rp B e c S sl σ H ∧ PMS B W e sl σ c H (m ⟨sl, e.κs⟩ S) Q
abbrev ES (X : Cx) (T : List NTab) (W : WX) (es : List Expr) (m : M (List Sl)) : Prop := PA X es (TMS (bo X T) W m)
def mSlV (m : M D) (ms : M (List Sl)) : M (List Sl) := mBind m fun d => if d.isK then mOpt none else mBind ms fun ls => mRet (.val d :: ls)
def mSlO (m : M Ob) (ms : M (List Sl)) : M (List Sl) := mBind m fun d => mBind ms fun ls => mRet (.own d :: ls)
def mSl0 : M (List Sl) := mRet []
theorem es_nil : ES X T W [] mSl0 := pa_imp pa_nil fun σ H Q ⟨e, c, S, sl, R0, p⟩ => p c H _ R0 .refl .nil
theorem NAt.start {B : Bd} {Hs H1 : Hp} {c : Cg} {H : Hp} {l : Sl} {v : V} (h : NAt B H1 c H l v) (i : ∀ p, H1 p = none → Hs p = none) : NAt B Hs c H l v := by
  cases l with
  | val d => exact h
  | clo j => exact h
  | own o =>
    obtain ⟨p, e, a, b⟩ := h
    exact ⟨p, e, i p a, b⟩
theorem NAs.start {B : Bd} {Hs H1 : Hp} {c : Cg} {H : Hp} (i : ∀ p, H1 p = none → Hs p = none) : ∀ {ls : List Sl} {vs : List V}, NAs B H1 c H ls vs → NAs B Hs c H ls vs
  | _, _, .nil => .nil
  | _, _, .cons h n r => .cons (h.start i) n (NAs.start i r)
/-- the container that is at p stands in none of these -/
theorem NAs.notIn {B : Bd} {Hs : Hp} {c : Cg} {H : Hp} {p : Addr} {o : Ob} (nF : ¬ c.F p) (nρ : p ∉ c.ρ) (ob : ObAt B c H p o) (hs : Hs p ≠ none) : ∀ {ls : List Sl} {vs : List V}, NAs B Hs c H ls vs → V.ref p ∉ vs
  | _, _, .nil => fun z => by cases z
  | _, _, .cons h n r => fun z => by
    rcases List.mem_cons.mp z with z | z
    · subst z
      rename_i l ls vs
      cases l with
      | clo j => exact h
      | own o' =>
        obtain ⟨q, e, a, _⟩ := h
        cases e
        exact hs a
      | val d =>
        obtain ⟨h, hk⟩ := (show RV B.K c H d (.ref p) ∧ d.isK = false from h)
        cases h with
        | klF _ _ _ _ => cases hk
        | klK _ _ _ => cases hk
        | ktK _ _ _ => cases hk
        | tup hh _ _ => exact ob.noTup (.inl hh)
        | lst f _ _ _ => exact nF f
        | dK f _ _ _ => exact nF f
        | dT f _ _ _ => exact nF f
        | obj hk => exact nρ (List.mem_of_getElem? hk)
    · exact NAs.notIn nF nρ ob hs r z
theorem es_val {mv : M D} {ml : M (List Sl)} (ha : EE X T W a mv) (hr : ES X T W es ml) (hs : starEach (a :: es) X.env = (false, eval a X.env) :: starEach es X.env) : ES X T W (a :: es) (mSlV mv ml) :=
  pa_imp (pa_cons ha hr hs) fun σ H Q ⟨e, c, S, sl, R0, p⟩ => ⟨e, c, S, sl, R0, by
    have p0 : PMS (bo X T) W e sl σ c H (mSlV mv ml ⟨sl, e.κs⟩ S) Q := p
    unfold mSlV mBind at p0
    cases q1 : mv ⟨sl, e.κs⟩ S with
    | none => rw [q1] at p0; exact p0
    | some r =>
      rw [q1] at p0
      cases r with
      | er x S' => exact p0
      | ok d S1 =>
        intro c1 H1 v R1 x1 rv
        refine ⟨e, c1, S1, sl, R1, ?_⟩
        simp only at p0
        split at p0
        · exact p0.elim
        rename_i hk
        have hk : d.isK = false := by simpa using hk
        simp only at p0
        cases q2 : ml ⟨sl, e.κs⟩ S1 with
        | none => rw [q2] at p0; exact p0
        | some r =>
          rw [q2] at p0
          cases r with
          | er x S' => exact fun c' H' cls dd R2 x2 rx => p0 c' H' cls dd R2 (x1.trans x2) rx
          | ok ls S2 => exact fun c2 H2 vs R2 x2 na => p0 c2 H2 (v :: vs) R2 (x1.trans x2) (.cons ⟨rv.keep (x2.keeps R1.st), hk⟩ (fun o z => by cases z) (na.start fun p => x1.dom p))⟩
theorem es_own {mv : M Ob} {ml : M (List Sl)} (ha : EO' X T W a mv) (hr : ES X T W es ml) (hs : starEach (a :: es) X.env = (false, eval a X.env) :: starEach es X.env) : ES X T W (a :: es) (mSlO mv ml) :=
  pa_imp (pa_cons ha hr hs) fun σ H Q ⟨e, c, S, sl, R0, p⟩ => ⟨e, c, S, sl, R0, by
    have p0 : PMS (bo X T) W e sl σ c H (mSlO mv ml ⟨sl, e.κs⟩ S) Q := p
    unfold mSlO mBind at p0
    cases q1 : mv ⟨sl, e.κs⟩ S with
    | none => rw [q1] at p0; exact p0
    | some r =>
      rw [q1] at p0
      cases r with
      | er x S' => exact p0
      | ok d S1 =>
        intro c1 H1 b R1 x1 hn nF nρ ob
        refine ⟨e, c1, S1, sl, R1, ?_⟩
        simp only at p0
        cases q2 : ml ⟨sl, e.κs⟩ S1 with
        | none => rw [q2] at p0; exact p0
        | some r =>
          rw [q2] at p0
          cases r with
          | er x S' => exact fun c' H' cls dd R2 x2 rx => p0 c' H' cls dd R2 (x1.trans x2) rx
          | ok ls S2 =>
            intro c2 H2 vs R2 x2 na
            obtain ⟨u, hu⟩ := ob.some_
            have e2 : H2 b = H1 b := (x2.keep b u hu nρ (ob.noTbl hu)).trans hu.symm
            have ob2 : ObAt (bo X T) c2 H2 b d := ob.keep (x2.keeps R1.st) e2
            have nF2 : ¬ c2.F b := fun z => by
              rcases x2.Fn b z with z | ⟨z, _⟩
              · exact nF z
              · rw [hu] at z; cases z
            have nρ2 : b ∉ c2.ρ := fun z => by
              rcases x2.ρn b z with z | z
              · exact nρ z
              · rw [hu] at z; cases z
            exact p0 c2 H2 (.ref b :: vs) R2 (x1.trans x2) (.cons ⟨b, rfl, hn, nF2, nρ2, ob2⟩ (fun o z => na.notIn nF2 nρ2 ob2 (by rw [hu]; exact fun z => by cases z)) (na.start fun p => x1.dom p))⟩
@[simp] def putAll : List Nat → List Sl → List (Option Sl) → Option (List (Option Sl))
  | [], [], sl => some sl
  | i :: is, l :: ls, sl => putAll is ls (sl.set i (some l))
  | _, _, _ => none
def putV : List Nat → List V → L2.St → L2.St
  | i :: is, v :: vs, σ => putV is vs (σ.set i (some v))
  | _, _, σ => σ
theorem Slots.putAll {B : Bd} {e : En} {c : Cg} {Hs H : Hp} (hs : ∀ p, Hs p = none → e.H0 p = none) : ∀ {is : List Nat} {ls : List Sl} {vs : List V} {sl sl' : List (Option Sl)} {σ : L2.St}, Slots B e c H sl σ → NAs B Hs c H ls vs → Lk.putAll is ls sl = some sl' →
    (∀ (j : Nat) o v, sl[j]? = some (some (.own o)) → σ[j]? = some (some v) → v ∉ vs) → Slots B e c H sl' (putV is vs σ)
  | [], _, _, _, _, _, s, .nil, h, _ => by cases h; exact s
  | [], _, _, _, _, _, _, .cons _ _ _, h, _ => by cases h
  | _ :: _, _, _, _, _, _, _, .nil, h, _ => by cases h
  | i :: is, _, _, sl, sl', σ, s, .cons (l := l) (v := v) (ls := ls) (vs := vs) ha hn hr, h, ap => by
    have h' : Lk.putAll is ls (sl.set i (some l)) = some sl' := h
    have sa : SlAt B e c H l v := by
      cases l with
      | val d => exact ha.1
      | clo j => exact ha.elim
      | own o =>
        obtain ⟨p, e1, a, b, d, g⟩ := ha
        exact ⟨p, e1, b, d, hs p a, g⟩
    refine Slots.putAll (is := is) (ls := ls) (vs := vs) (σ := σ.set i (some v)) hs (s.put sa fun o j o' _ q z => ap j o' v q z List.mem_cons_self) hr h' fun j o w q z => ?_
    by_cases hj : i = j
    · subst hj
      by_cases hlt : i < sl.length
      · rw [List.getElem?_set_self hlt] at q
        rw [List.getElem?_set_self (by rw [← s.len]; exact hlt)] at z
        cases q
        cases z
        exact hn o rfl
      · rw [List.getElem?_eq_none (by rw [List.length_set]; omega)] at q; cases q
    · rw [List.getElem?_set_ne hj] at q z
      exact fun hm => ap j o w q z (List.mem_cons_of_mem _ hm)
def mPar (is : List Nat) (m : M (List Sl)) : MS := mThen m fun ls => mNx (putAll is ls)
end
end Lk
set_option Elab.async false
set_option linter.all false
set_option maxRecDepth 100000
set_option maxHeartbeats 1000000
set_option autoImplicit false
namespace Lk
open PySem PySem.Spec PyProof.Rows L2 NdefX
/-! ### a, b = x, y: the statements -/
section
variable {X : Cx} {T : List NTab} {W : WX} {st : Stmt} {a b c0 cnd tg iter : Expr} {es : List Expr} {pos : Pos} {m : M D} {ml : M (List Sl)}
theorem NAs.len {B : Bd} {Hs : Hp} {c : Cg} {H : Hp} : ∀ {ls : List Sl} {vs : List V}, NAs B Hs c H ls vs → ls.length = vs.length
  | _, _, .nil => rfl
  | _, _, .cons _ _ r => congrArg (· + 1) (NAs.len r)
theorem NAs.ne {B : Bd} {Hs : Hp} {c c1 : Cg} {H : Hp} {p : Addr} {o : Ob} (hs : Hs p ≠ none) (ob : ObAt B c H p o) (nF : ¬ c.F p) (nρ : p ∉ c.ρ) {ls : List Sl} {vs : List V} (h : NAs B Hs c H ls vs) : V.ref p ∉ vs := h.notIn nF nρ ob hs
theorem putAll_len : ∀ {is : List Nat} {ls : List Sl} {sl sl' : List (Option Sl)}, putAll is ls sl = some sl' → is.length = ls.length
  | [], [], _, _, _ => rfl
  | [], _ :: _, _, _, h => by cases h
  | _ :: _, [], _, _, h => by cases h
  | _ :: is, _ :: ls, _, _, h => congrArg (· + 1) (putAll_len (is := is) (ls := ls) h)
theorem tms_put {B : Bd} {is : List Nat} {Z : Ends} {σ : L2.St} {H : Hp} (h : TSm B W (mPar is ml) Z σ H) : TMS B W ml σ H fun vs H1 => vs.length = is.length ∧ Z.nx (putV is vs σ) H1 := by
  obtain ⟨e, c, S, sl, R0, p⟩ := h
  refine ⟨e, c, S, sl, R0, ?_⟩
  have p0 : PSt B W e c H (mThen ml (fun ls => mNx (putAll is ls)) ⟨sl, e.κs⟩ S) Z := p
  unfold mThen at p0
  cases q : ml ⟨sl, e.κs⟩ S with
  | none => rw [q] at p0; exact p0
  | some r =>
    rw [q] at p0
    cases r with
    | er x S' => exact fun c' H' cls dd R1 x1 rx => p0 c' H' cls dd σ R1 (x1.keeps R0.st) rx
    | ok ls S' =>
      have p1 : PSt B W e c H (mNx (putAll is ls) ⟨sl, e.κs⟩ S') Z := p0
      unfold mNx at p1
      simp only at p1
      cases hp : putAll is ls sl with
      | none => rw [hp] at p1; exact p1.elim
      | some sl' =>
        rw [hp] at p1
        intro c' H' vs R1 x1 na
        refine ⟨by rw [← na.len]; exact (putAll_len hp).symm, p1 c' H' _ ⟨R1.st, R1.tb, R1.ext, Slots.putAll (fun p h => R0.ext.dom p h) R1.sl na hp fun j o v h1 h2 => ?_, R1.ks⟩ (x1.keeps R0.st)⟩
        obtain ⟨v', h3, p, rfl, nF, nρ, _, ob⟩ := R0.sl.at_ j _ h1
        rw [h3] at h2
        cases h2
        obtain ⟨v2, h4, p2, e2, nF2, nρ2, _, ob2⟩ := R1.sl.at_ j _ h1
        rw [h3] at h4
        cases h4
        cases e2
        obtain ⟨u, hu⟩ := ob.some_
        exact na.notIn nF2 nρ2 ob2 (by rw [hu]; exact fun z => by cases z)
theorem ss_par2 {i j : Nat} {x y : Str} {px py pt : Pos} {kt : Nat} {k2 : Nat} {pt2 : Pos} (hc : X.calm = true) (hN : X.N.Nodup) (hi : X.N[i]? = some x) (hj : X.N[j]? = some y) (hij : i ≠ j)
    (hx : X.env.scope.names.lookup x = some .local) (hy : X.env.scope.names.lookup y = some .local) (ha : ES X T W [a, b] ml)
    (hw : swappedStores [.Tuple [.Name x px, .Name y py] kt pt] (.Tuple [a, b] k2 pt2) X.env = pure (some [x, y]))
    (hs : swapsWithSole [.Tuple [.Name x px, .Name y py] kt pt] (.Tuple [a, b] k2 pt2) pos.line X.env = pure false) :
    SS X T W (.Assign [.Tuple [.Name x px, .Name y py] kt pt] (.Tuple [a, b] k2 pt2) pos) (mPar [i, j] ml) :=
  ps_imp (ps_par hc hN hi hj hij hx hy ha hw hs) fun Z σ H h => by
    obtain ⟨e, c, S, sl, R0, p⟩ := tms_put h
    refine ⟨e, c, S, sl, R0, ?_⟩
    cases q : ml ⟨sl, e.κs⟩ S with
    | none => rw [q] at p; exact p
    | some r =>
      rw [q] at p
      cases r with
      | er x S' => exact p
      | ok ls S' =>
        intro c' H' vs R1 x1 na
        obtain ⟨h1, h2⟩ := p c' H' vs R1 x1 na
        match vs, h1 with
        | [v, w], _ => exact ⟨v, w, rfl, h2⟩
theorem ss_par3 {i j l : Nat} {x y z : Str} {px py pz pt : Pos} {kt : Nat} {k2 : Nat} {pt2 : Pos} (hc : X.calm = true) (hN : X.N.Nodup) (hi : X.N[i]? = some x) (hj : X.N[j]? = some y) (hl : X.N[l]? = some z) (hij : i ≠ j) (hil : i ≠ l) (hjl : j ≠ l)
    (hx : X.env.scope.names.lookup x = some .local) (hy : X.env.scope.names.lookup y = some .local) (hz : X.env.scope.names.lookup z = some .local) (ha : ES X T W [a, b, c0] ml)
    (hw : swappedStores [.Tuple [.Name x px, .Name y py, .Name z pz] kt pt] (.Tuple [a, b, c0] k2 pt2) X.env = pure (some [x, y, z]))
    (hs : swapsWithSole [.Tuple [.Name x px, .Name y py, .Name z pz] kt pt] (.Tuple [a, b, c0] k2 pt2) pos.line X.env = pure false) :
    SS X T W (.Assign [.Tuple [.Name x px, .Name y py, .Name z pz] kt pt] (.Tuple [a, b, c0] k2 pt2) pos) (mPar [i, j, l] ml) :=
  ps_imp (ps_par3 hc hN hi hj hl hij hil hjl hx hy hz ha hw hs) fun Z σ H h => by
    obtain ⟨e, c, S, sl, R0, p⟩ := tms_put h
    refine ⟨e, c, S, sl, R0, ?_⟩
    cases q : ml ⟨sl, e.κs⟩ S with
    | none => rw [q] at p; exact p
    | some r =>
      rw [q] at p
      cases r with
      | er x S' => exact p
      | ok ls S' =>
        intro c' H' vs R1 x1 na
        obtain ⟨h1, h2⟩ := p c' H' vs R1 x1 na
        match vs, h1 with
        | [u, v, w], _ => exact ⟨u, v, w, rfl, h2⟩
end
/-! ### a container is written -/
def setD (kvs : List (D × D)) (q : KQ) (k d : D) : List (D × D) :=
  if (kvs.any fun kv => decide (keyQ kv.1 = some q)) = true then kvs.map (fun kv => if keyQ kv.1 = some q then (kv.1, d) else kv) else kvs ++ [(k, d)]
/-- o[k] = d -/
def setOb : Ob → D → D → Option Ob
  | .lst xs, .int i, d => (ixN xs.length i).map fun j => .lst (xs.set j d)
  | .dct kvs, k, d => match keyQ k with
    | some q => if kindOk kvs q ∧ kvs.length < sizeLine then some (.dct (setD kvs q k d)) else none
    | none => none
  | _, _, _ => none
section
variable {B : Bd} {K : PySem.W.Frag} {c : Cg} {H : Hp}
theorem RKs.append : ∀ {ds es : List (D × D)} {vs us : List (Key × V)}, RKs K c H ds vs → RKs K c H es us → RKs K c H (ds ++ es) (vs ++ us)
  | _, _, _, _, .nil, s => s
  | _, _, _, _, .cons o h r, s => .cons o h (RKs.append r s)
theorem RTs.append : ∀ {ds es : List (D × D)} {vs us : List (List Key × V)}, RTs K c H ds vs → RTs K c H es us → RTs K c H (ds ++ es) (vs ++ us)
  | _, _, _, _, .nil, s => s
  | _, _, _, _, .cons o h r, s => .cons o h (RTs.append r s)
theorem setK_any (k : Key) : ∀ {kvs : List (D × D)} {es : List (Key × V)}, RKs K c H kvs es → (kvs.any fun kv => decide (keyQ kv.1 = some (.inl k))) = es.any fun kv => decide (kv.1 = k)
  | _, _, .nil => rfl
  | _, _, .cons (k := k') o h r => by
    rw [List.any_cons, List.any_cons, setK_any k r]
    congr 1
    simp [keyQ_kD]
theorem setT_any (k : List Key) : ∀ {kvs : List (D × D)} {es : List (List Key × V)}, RTs K c H kvs es → (kvs.any fun kv => decide (keyQ kv.1 = some (.inr k))) = es.any fun kv => decide (kv.1 = k)
  | _, _, .nil => rfl
  | _, _, .cons (k := k') o h r => by
    rw [List.any_cons, List.any_cons, setT_any k r]
    congr 1
    simp [keyQ_kT]
theorem setK_map {k : Key} {d : D} {v : V} (rv : RV K c H d v) : ∀ {kvs : List (D × D)} {es : List (Key × V)}, RKs K c H kvs es →
    RKs K c H (kvs.map fun kv => if keyQ kv.1 = some (.inl k) then (kv.1, d) else kv) (es.map fun kv => if kv.1 = k then (kv.1, v) else kv)
  | _, _, .nil => .nil
  | _, _, .cons (k := k') o h r => by
    rw [List.map_cons, List.map_cons]
    by_cases e : k' = k
    · subst e
      rw [if_pos rfl, if_pos (keyQ_kD _)]
      exact .cons o rv (setK_map rv r)
    · rw [if_neg e, if_neg (by simp only [keyQ_kD]; intro z; cases z; exact e rfl)]
      exact .cons o h (setK_map rv r)
theorem setT_map {k : List Key} {d : D} {v : V} (rv : RV K c H d v) : ∀ {kvs : List (D × D)} {es : List (List Key × V)}, RTs K c H kvs es →
    RTs K c H (kvs.map fun kv => if keyQ kv.1 = some (.inr k) then (kv.1, d) else kv) (es.map fun kv => if kv.1 = k then (kv.1, v) else kv)
  | _, _, .nil => .nil
  | _, _, .cons (k := k') o h r => by
    rw [List.map_cons, List.map_cons]
    by_cases e : k' = k
    · subst e
      rw [if_pos rfl, if_pos (keyQ_kT _)]
      exact .cons o rv (setT_map rv r)
    · rw [if_neg e, if_neg (by simp only [keyQ_kT]; intro z; cases z; exact e rfl)]
      exact .cons o h (setT_map rv r)
theorem setK_R {k : Key} {d : D} {v : V} (rv : RV K c H d v) (ok : kOk k) {kvs : List (D × D)} {es : List (Key × V)} (r : RKs K c H kvs es) : RKs K c H (setD kvs (.inl k) (kD k) d) (putK es k v) := by
  unfold setD putK
  rw [setK_any k r]
  by_cases h : (es.any fun kv => decide (kv.1 = k)) = true
  · rw [if_pos h, if_pos h]; exact setK_map rv r
  · rw [if_neg h, if_neg h]; exact r.append (.cons ok rv .nil)
theorem setT_R {k : List Key} {d : D} {v : V} (rv : RV K c H d v) (ok : ksOk k) {kvs : List (D × D)} {es : List (List Key × V)} (r : RTs K c H kvs es) : RTs K c H (setD kvs (.inr k) (kT k) d) (putK es k v) := by
  unfold setD putK
  rw [setT_any k r]
  by_cases h : (es.any fun kv => decide (kv.1 = k)) = true
  · rw [if_pos h, if_pos h]; exact setT_map rv r
  · rw [if_neg h, if_neg h]; exact r.append (.cons ok rv .nil)
theorem kOk_of {k : Key} {v : V} (h : RV K c H (kD k) v) : kOk k := by
  cases k with
  | inl i => trivial
  | inr x => exact h.strAt.2
theorem ksOk_of {ks : List Key} {v : V} (h : RV K c H (kT ks) v) : ksOk ks := by
  obtain ⟨p, xs, rfl, e, z, r⟩ := RV.tupAt h
  refine ⟨by have := r.length; rw [List.length_map] at this; omega, fun k hk => ?_⟩
  obtain ⟨i, hi⟩ := List.mem_iff_getElem?.mp hk
  obtain ⟨v, _, rv⟩ := r.get (i := i) (d := kD k) (by rw [List.getElem?_map, hi]; rfl)
  exact kOk_of rv
end
/-- the heap step of a store -/
def rSet2 : TSet := fun o i v H Q => rSetL o i v H Q ∨ rSetD o i v H Q ∨ (∃ a, o = .ref a ∧ H a = some (.dK []) ∧ rSetD o i v (upd H a (.dT [])) Q) ∨ ∃ a, o = .ref a ∧ H a = some (.dT []) ∧ rSetD o i v (upd H a (.dK [])) Q
theorem retypeT {P : Program} {w : World} {H H' : Hp} {h : Heap} {a : Addr} (ok : ObjOk P w H h a (.dT [])) : ObjOk P w H' h a (.dK []) := by
  obtain ⟨z, hd, vs, rel, dd⟩ := ok
  cases rel
  obtain ⟨o, es, ep, h1, h2, h3, h4, h5⟩ := dd
  have e0 : es.toList = [] := h4
  refine ⟨Nat.zero_le _, hd, [], .nil, o, es, ep, h1, h2, h3, ?_, ?_, List.nodup_nil⟩
  · intro e he
    have : e ∈ es.toList := by simpa using he
    rw [e0] at this; cases this
  · rw [e0]; exact .nil
theorem Inv.retype {X : Cx} {pins : List (Addr × Obj)} {σ : L2.St} {H : Hp} {s : Shared} {a : Addr} (I : Inv X pins σ H s) (h : H a = some (.dK [])) : Inv X pins σ (upd H a (.dT [])) s := by
  have ok := I.hok a _ h
  have ex : ∃ u, s.heap.get? a = some u := by
    obtain ⟨_, _, _, _, o, _, _, e, _⟩ := ok
    exact ⟨o, e⟩
  refine I.write (x := a) (e := a) (t' := s.toks) (h' := s.heap) (by rw [h]; trivial) (.inl rfl) (fun b u _ q => q) ex ?_
  exact Lk.retype ok
theorem Inv.retypeT {X : Cx} {pins : List (Addr × Obj)} {σ : L2.St} {H : Hp} {s : Shared} {a : Addr} (I : Inv X pins σ H s) (h : H a = some (.dT [])) : Inv X pins σ (upd H a (.dK [])) s := by
  have ok := I.hok a _ h
  have ex : ∃ u, s.heap.get? a = some u := by
    obtain ⟨_, _, _, _, o, _, _, e, _⟩ := ok
    exact ⟨o, e⟩
  refine I.write (x := a) (e := a) (t' := s.toks) (h' := s.heap) (by rw [h]; trivial) (.inl rfl) (fun b u _ q => q) ex ?_
  exact Lk.retypeT ok
theorem set_2 {X : Cx} (hu : X.A.units + 1 < cLine) : PSet X rSet2 := by
  intro pins s σ H o i v ov iv u Q I ro ri rv h
  rcases h with h | h | ⟨a, rfl, ha, h⟩ | ⟨a, rfl, ha, h⟩
  · exact set_list pins s σ H o i v ov iv u Q I ro ri rv h
  · exact set_dict hu pins s σ H o i v ov iv u Q I ro ri rv h
  · exact set_dict hu pins s σ _ _ i v ov iv u Q (Inv.retype I ha) ro ri rv h
  · exact set_dict hu pins s σ _ _ i v ov iv u Q (Inv.retypeT I ha) ro ri rv h
/-- what a store does, at the level of data -/
theorem setOb_r {B : Bd} {c : Cg} {H : Hp} {p : Addr} {o o' : Ob} {k d : D} {kv v : V} {Q : Hp → Prop} (ob : ObAt B c H p o) (hk : RV B.K c H k kv) (hd : RV B.K c H d v) (e : setOb o k d = some o')
    (keep : ∀ u, Keeps c H c (upd H p u)) (q : ∀ u, ObAt B c (upd H p u) p o' → Q (upd H p u)) : rSet2 (.ref p) kv v H Q := by
  cases o with
  | ins x fs => cases e
  | lst xs =>
    cases k <;> try (cases e; done)
    rename_i i
    obtain ⟨j, hj, e⟩ := Option.map_eq_some_iff.mp e
    subst e
    obtain ⟨ys, h1, z, r⟩ := ob
    obtain rfl := hk.intAt
    refine .inl ⟨p, ys, i, j, rfl, rfl, h1, by rw [← r.length]; exact hj, q _ ⟨_, upd_same, by rw [List.length_set]; exact z, (r.keep (keep _)).set (hd.keep (keep _)) j⟩⟩
  | dct kvs =>
    have e : (match keyQ k with
      | some q => if kindOk kvs q ∧ kvs.length < sizeLine then some (Ob.dct (setD kvs q k d)) else none
      | none => none) = some o' := by simpa only [setOb] using e
    split at e
    · rename_i q0 hq
      split at e
      · rename_i ho
        cases e
        obtain ⟨ho, hz⟩ := ho
        cases q0 with
        | inl k' =>
          have ek := keyQ_inl hq
          subst ek
          have ey := kV_kD hk
          subst ey
          have base : ∀ es, H p = some (.dK es) → RKs B.K c H kvs es → rSetD (.ref p) (kV k') v H Q := fun es h1 r => by
            refine ⟨p, _, rfl, DPut.k h1 (by rw [← r.length]; exact hz), q _ (.inl ⟨_, upd_same, ?_, setK_R (hd.keep (keep _)) (kOk_of hk) (r.keep (keep _))⟩)⟩
            have := length_putK es k' v
            rw [← r.length] at this
            omega
          rcases ob with ⟨es, h1, z, r⟩ | ⟨es, h1, z, r⟩
          · exact .inr (.inl (base es h1 r))
          · obtain ⟨e1, e2⟩ := kind_T r ho
            subst e1 e2
            refine .inr (.inr (.inr ⟨p, rfl, h1, p, _, rfl, DPut.k upd_same (by rw [sizeLine_eq]; decide), ?_⟩))
            rw [upd_upd]
            exact q _ (.inl ⟨_, upd_same, by show 1 ≤ sizeLine; rw [sizeLine_eq]; decide, setK_R (hd.keep (keep _)) (kOk_of hk) .nil⟩)
        | inr k' =>
          have ek := keyQ_inr hq
          subst ek
          obtain ⟨b, rfl, eb⟩ := kT_at hk
          rcases ob with ⟨es, h1, z, r⟩ | ⟨es, h1, z, r⟩
          · obtain ⟨e1, e2⟩ := kind_K r ho
            subst e1 e2
            have hb : b ≠ p := fun z => by rw [z, h1] at eb; cases eb
            refine .inr (.inr (.inl ⟨p, rfl, h1, p, _, rfl, DPut.t upd_same (by rw [upd_ne hb]; exact eb) (by rw [sizeLine_eq]; decide), ?_⟩))
            rw [upd_upd]
            exact q _ (.inr ⟨_, upd_same, by show 1 ≤ sizeLine; rw [sizeLine_eq]; decide, setT_R (hd.keep (keep _)) (ksOk_of hk) .nil⟩)
          · refine .inr (.inl ⟨p, _, rfl, DPut.t h1 eb (by rw [← r.length]; exact hz), q _ (.inr ⟨_, upd_same, ?_, setT_R (hd.keep (keep _)) (ksOk_of hk) (r.keep (keep _))⟩)⟩)
            have := length_putK es k' v
            rw [← r.length] at this
            omega
      · cases e
    · cases e
/-! ### a slot's container is written, a shared object is written -/
section
variable {B : Bd} {e : En} {c : Cg} {S : Sto} {sl : List (Option Sl)} {σ : L2.St} {H : Hp}
theorem ObAt.priv {p : Addr} {o : Ob} (ob : ObAt B c H p o) (nF : ¬ c.F p) (nρ : p ∉ c.ρ) (h : ∀ x fs, o ≠ .ins x fs) : Priv c H p := by
  refine ⟨nF, nρ, ?_⟩
  cases o with
  | lst ds => obtain ⟨xs, q, _⟩ := ob; exact .inl ⟨_, q⟩
  | dct kvs =>
    rcases ob with ⟨es, q, _⟩ | ⟨es, q, _⟩
    · exact .inr (.inl ⟨_, q⟩)
    · exact .inr (.inr ⟨_, q⟩)
  | ins x fs => exact absurd rfl (h x fs)
/-- the slot i's container at p becomes o' -/
theorem Rp.mut (R : Rp B e c S sl σ H) {i : Nat} {o o' : Ob} {p : Addr} {u : HO} (hs : sl[i]? = some (some (.own o))) (hp : σ[i]? = some (some (.ref p))) (ho : ∀ x fs, o ≠ .ins x fs) (ob : ObAt B c (upd H p u) p o') :
    Rp B e c S (sl.set i (some (.own o'))) σ (upd H p u) ∧ Keeps c H c (upd H p u) := by
  obtain ⟨v, h1, p', rfl, nF, nρ, n0, ob0⟩ := R.sl.at_ i _ hs
  rw [h1] at hp
  cases hp
  have a := ob0.priv nF nρ ho
  have k : Keeps c H c (upd H p u) := a.keeps
  have lt : i < sl.length := by
    rcases Nat.lt_or_ge i sl.length with h | h
    · exact h
    · rw [List.getElem?_eq_none h] at hs; cases hs
  refine ⟨⟨a.st R.st, a.tabs R.tb, a.ext R.ext n0, ⟨by rw [List.length_set]; exact R.sl.len, fun j l q => ?_, fun j k' o1 o2 w q1 q2 q3 q4 => ?_⟩, R.ks⟩, k⟩
  · by_cases hj : i = j
    · subst hj
      rw [List.getElem?_set_self lt] at q
      cases q
      exact ⟨_, h1, p, rfl, nF, nρ, n0, ob⟩
    · rw [List.getElem?_set_ne hj] at q
      obtain ⟨w, h2, h3⟩ := R.sl.at_ j l q
      refine ⟨w, h2, ?_⟩
      cases l with
      | val d => exact RV.keep k h3
      | clo m => exact h3
      | own o2 =>
        obtain ⟨p2, rfl, nF2, nρ2, n2, ob2⟩ := h3
        have hne : p2 ≠ p := fun z => hj (R.sl.apart i j o o2 (.ref p) hs q h1 (by rw [h2, z]))
        exact ⟨p2, rfl, nF2, nρ2, n2, ob2.keep k (upd_ne hne)⟩
  · have back : ∀ {j : Nat} {o1 : Ob}, (sl.set i (some (.own o')))[j]? = some (some (.own o1)) → ∃ o3, sl[j]? = some (some (.own o3)) := fun {j o1} q => by
      by_cases hj : i = j
      · subst hj; exact ⟨o, hs⟩
      · rw [List.getElem?_set_ne hj] at q; exact ⟨o1, q⟩
    obtain ⟨o3, q1'⟩ := back q1
    obtain ⟨o4, q2'⟩ := back q2
    exact R.sl.apart j k' o3 o4 w q1' q2' q3 q4
/-- the shared object k at p becomes o' -/
theorem Rp.mutR (R : Rp B e c S sl σ H) {k : Nat} {o o' : Ob} {p : Addr} {u : HO} (hs : S[k]? = some o) (hp : c.ρ[k]? = some p) (hu : ∀ ps, u ≠ .tbl ps) (ob : ObAt B c (upd H p u) p o') :
    Rp B e c (S.set k o') sl σ (upd H p u) ∧ Keeps c H c (upd H p u) := by
  have hm : p ∈ c.ρ := List.mem_of_getElem? hp
  have nF := R.st.nf p hm
  have ob0 := R.st.at_ k o p hs hp
  have kp : Keeps c H c (upd H p u) := by
    have ne : ∀ q, c.F q → q ≠ p := fun q f z => nF (z ▸ f)
    have nt : ∀ q ys, H q = some (.tup ys) → q ≠ p := fun q ys h z => ob0.noTup (.inl (by rw [← z]; exact h))
    refine ⟨fun _ h => h, fun _ _ h => h, fun q ys h => by rw [upd_ne (nt q ys h)]; exact h, fun q ys f h => ?_, fun q ob u f h => by rw [upd_ne (ne q f)]; exact h⟩
    rcases h with h | ⟨ob, h⟩
    · exact .inl (by rw [upd_ne (ne q f)]; exact h)
    · exact .inr ⟨ob, by rw [upd_ne (ne q f)]; exact h⟩
  have hk : k < S.length := by
    rcases Nat.lt_or_ge k S.length with h | h
    · exact h
    · rw [List.getElem?_eq_none h] at hs; cases hs
  have uniq : ∀ j, c.ρ[j]? = some p → j = k := fun j hj => by
    obtain ⟨h1, e1⟩ := List.getElem?_eq_some_iff.mp hj
    obtain ⟨h2, e2⟩ := List.getElem?_eq_some_iff.mp hp
    have nd := List.pairwise_iff_getElem.mp R.st.nd
    rcases Nat.lt_trichotomy j k with h | h | h
    · exact absurd (e1.trans e2.symm) (nd j k h1 h2 h)
    · exact h
    · exact absurd (e2.trans e1.symm) (nd k j h2 h1 h)
  obtain ⟨u0, hu0⟩ := ob0.some_
  refine ⟨⟨⟨fun q f => ?_, by rw [List.length_set]; exact R.st.len, R.st.nd, R.st.nf, fun j o2 q e1 e2 => ?_⟩, fun q hq => ?_, ⟨R.ext.F, fun q f => ?_, R.ext.ρ, R.ext.ρn, fun q o2 h1 h2 h3 => ?_, fun q h => ?_⟩, ⟨R.sl.len, fun j l q => ?_, R.sl.apart⟩, R.ks⟩, kp⟩
  · have hq : q ≠ p := fun z => nF (z ▸ f)
    rw [upd_ne hq]; exact R.st.ff q f
  · by_cases hj : k = j
    · subst hj
      rw [List.getElem?_set_self hk] at e1
      cases e1
      rw [hp] at e2
      cases e2
      exact ob
    · rw [List.getElem?_set_ne hj] at e1
      exact (R.st.at_ j o2 q e1 e2).keep kp (upd_ne fun z => hj (uniq j (by rw [e2, z])).symm)
  · obtain ⟨ps, t1, t2, t3⟩ := R.tb q hq
    have n1 : q.1 ≠ p := fun z => ob0.noTbl (by rw [← z]; exact t1) ps rfl
    refine ⟨ps, by rw [upd_ne n1]; exact t1, t2, fun pos cv e' => ?_⟩
    obtain ⟨d, a1, a2⟩ := t3 pos cv e'
    refine ⟨d, a1, ?_⟩
    have n2 : d ≠ p := fun z => by
      rw [z] at a2
      rcases ob0.kind with ⟨_, q⟩ | ⟨_, q⟩ | ⟨_, q⟩ | ⟨_, _, _, q⟩ <;> (rw [a2] at q; cases q)
    rw [upd_ne n2]; exact a2
  · rcases R.ext.Fn q f with f' | ⟨f', f2⟩
    · exact .inl f'
    · exact .inr ⟨f', by
        have hq : q ≠ p := fun z => nF (by rw [← z]; exact f)
        rw [upd_ne hq]; exact f2⟩
  · refine (upd_ne fun z => ?_).trans (R.ext.keep q o2 h1 h2 h3)
    rcases R.ext.ρn p hm with h | h
    · exact h2 (z ▸ h)
    · rw [z, h] at h1; cases h1
  · by_cases hq : q = p
    · rw [hq, upd_same] at h; cases h
    · rw [upd_ne hq] at h; exact R.ext.dom q h
  · obtain ⟨w, h2, h3⟩ := R.sl.at_ j l q
    refine ⟨w, h2, ?_⟩
    cases l with
    | val d => exact RV.keep kp h3
    | clo m => exact h3
    | own o2 =>
      obtain ⟨p2, rfl, nF2, nρ2, n2, ob2⟩ := h3
      exact ⟨p2, rfl, nF2, nρ2, n2, ob2.keep kp (upd_ne fun z => nρ2 (z ▸ hm))⟩
end
/-- x[k] = d, x a name: its own container, or a shared one -/
def putN (i : Nat) (k d : D) : MS := fun v S => match v.sl[i]? with
  | some (some (.own o)) => match setOb o k d with
    | some o' => some (.nx (v.sl.set i (some (.own o'))) S)
    | none => none
  | some (some (.val (.obj j))) => match S[j]? with
    | some o => match setOb o k d with
      | some o' => some (.nx v.sl (S.set j o'))
      | none => none
    | none => none
  | _ => none
def mHas (i : Nat) (m : MS) : MS := fun v S => match v.sl[i]? with
  | some (some _) => m v S
  | _ => none
def mPut (i : Nat) (mi md : M D) : MS := mThen md fun d => mHas i (mThen mi fun k => putN i k d)
theorem setOb_ins {o o' : Ob} {k d : D} (h : setOb o k d = some o') : ∀ x fs, o ≠ .ins x fs := by
  intro x fs z
  subst z
  cases h
section
variable {X : Cx} {T : List NTab} {W : WX} {st : Stmt} {a b ix cnd tg iter : Expr} {es : List Expr} {pos p1 p2 : Pos} {m md mi : M D}
theorem putN_ok {i : Nat} {k d : D} {e : En} {c : Cg} {S : Sto} {sl : List (Option Sl)} {σ : L2.St} {H : Hp} {Z : Ends} {kv v : V} (R : Rp (bo X T) e c S sl σ H) (hk : RV X.K c H k kv) (hd : RV X.K c H d v)
    (p : PSt (bo X T) W e c H (putN i k d ⟨sl, e.κs⟩ S) Z) : ∃ o, σ[i]? = some (some o) ∧ rSet2 o kv v H fun H' => Z.nx σ H' := by
  unfold putN at p
  split at p
  · rename_i o hq
    simp only at hq
    obtain ⟨w, h1, p', rfl, nF, nρ, n0, ob0⟩ := R.sl.at_ i _ hq
    split at p
    · rename_i o' ho
      have hi := setOb_ins ho
      refine ⟨_, h1, setOb_r (B := bo X T) ob0 hk hd ho (fun u => (ob0.priv nF nρ hi).keeps) fun u ob => ?_⟩
      obtain ⟨R', k'⟩ := R.mut hq h1 hi ob
      exact p c _ σ R' k'
    · exact p.elim
  · rename_i j hq
    simp only at hq
    obtain ⟨w, h1, h2⟩ := R.sl.at_ i _ hq
    have h2 : RV X.K c H (.obj j) w := h2
    cases h2
    rename_i q hρ
    split at p
    · rename_i o hS
      split at p
      · rename_i o' ho
        have ob0 := R.st.at_ j o q hS hρ
        have hi := setOb_ins ho
        refine ⟨_, h1, ?_⟩
        have kp : ∀ u, Keeps c H c (upd H q u) := fun u => by
          have nF := R.st.nf q (List.mem_of_getElem? hρ)
          have ne : ∀ r, c.F r → r ≠ q := fun r f z => nF (z ▸ f)
          have nt : ∀ r ys, H r = some (.tup ys) → r ≠ q := fun r ys h z => ob0.noTup (.inl (by rw [← z]; exact h))
          refine ⟨fun _ h => h, fun _ _ h => h, fun r ys h => by rw [upd_ne (nt r ys h)]; exact h, fun r ys f h => ?_, fun r ob u f h => by rw [upd_ne (ne r f)]; exact h⟩
          rcases h with h | ⟨ob, h⟩
          · exact .inl (by rw [upd_ne (ne r f)]; exact h)
          · exact .inr ⟨ob, by rw [upd_ne (ne r f)]; exact h⟩
        refine setOb_r (B := bo X T) ob0 hk hd ho kp fun u ob => ?_
        have nt : ∀ ps, u ≠ .tbl ps := fun ps z => ob.noTbl upd_same ps z
        obtain ⟨R', k'⟩ := R.mutR hS hρ nt ob
        exact p c _ σ R' k'
      · exact p.elim
    · exact p.elim
  · exact p.elim
theorem ss_put {i : Nat} {x : Str} (hu : X.A.units + 1 < cLine) (hN : X.N[i]? = some x) (hv : Vis X.env.scope x) (hd : (x == ("__debug__" : Str)) = false) (hcd : (x == ("__classdict__" : Str)) = false)
    (ha : EE X T W a md) (hi : EE X T W ix mi) (hs : swapsWithSole [.Subscript (.Name x p1) ix p2] a pos.line X.env = pure false) (hw : swappedStores [.Subscript (.Name x p1) ix p2] a X.env = pure none)
    (h1 : (assignEach [.Subscript (.Name x p1) ix p2] X.env).map (·.2) = [assign (.Subscript (.Name x p1) ix p2) X.env]) (hst : ∀ v, assign (.Subscript (.Name x p1) ix p2) X.env v = (do
      let ov ← holding [v] (eval (.Name x p1) X.env)
      let iv ← holding [v, ov] (eval ix X.env)
      standAt p2
      holding [v, ov, iv] (setItem ov iv v)
      release [v, ov, iv] [])) :
    SS X T W (.Assign [.Subscript (.Name x p1) ix p2] a pos) (mPut i mi md) := by
  refine ps_imp (ps_asg ha (pg_sub (pe_var hN hv hd hcd) hi (set_2 hu) hst) hs hw h1) fun Z σ H ⟨e, c, S, sl, R0, p⟩ => ?_
  refine ⟨e, c, S, sl, R0, (PSt.thn (r1 := RV X.K) R0 p).imp fun v H1 ⟨c1, S1, d, R1, _, rv, p1⟩ => ?_⟩
  have p1' : PSt (bo X T) W e c1 H1 (mHas i (mThen mi fun k => putN i k d) ⟨sl, e.κs⟩ S1) Z := p1
  unfold mHas at p1'
  split at p1'
  case h_2 => exact p1'.elim
  rename_i l hl
  obtain ⟨o, ho, _⟩ := R1.sl.at_ i _ hl
  refine ⟨o, ho, e, c1, S1, sl, R1, (PSt.thn (r1 := RV X.K) R1 p1').imp fun kv H2 ⟨c2, S2, k, R2, k2, rk, p2⟩ => ?_⟩
  obtain ⟨o', ho', h⟩ := putN_ok R2 rk (rv.keep k2) p2
  rw [ho] at ho'
  cases ho'
  exact h
end
end Lk
set_option Elab.async false
set_option linter.all false
set_option maxRecDepth 100000
set_option maxHeartbeats 1000000
set_option autoImplicit false
namespace Lk
open PySem PySem.Spec PyProof.Rows L2 NdefX
/-! ### a slot's container is frozen -/
theorem upd_self {H : Hp} {p : Addr} {u : HO} (h : H p = some u) : upd H p u = H := by
  funext b
  by_cases e : b = p
  · rw [e, upd_same, h]
  · exact upd_ne e
section
variable {B : Bd} {e : En} {c : Cg} {S : Sto} {sl : List (Option Sl)} {σ : L2.St} {H : Hp}
theorem Rp.frz (R : Rp B e c S sl σ H) {i : Nat} {o : Ob} {p : Addr} {u : HO} {d : D} (hs : sl[i]? = some (some (.own o))) (hp : σ[i]? = some (some (.ref p))) (ho : ∀ x fs, o ≠ .ins x fs)
    (rv : RV B.K (c.add p) (upd H p u) d (.ref p)) : Rp B e (c.add p) S (sl.set i (some (.val d))) σ (upd H p u) ∧ Keeps c H (c.add p) (upd H p u) := by
  obtain ⟨v, h1, p', rfl, nF, nρ, n0, ob0⟩ := R.sl.at_ i _ hs
  rw [h1] at hp
  cases hp
  have a := ob0.priv nF nρ ho
  have k1 : Keeps c H c (upd H p u) := a.keeps
  have k : Keeps c H (c.add p) (upd H p u) := k1.trans keeps_add
  have s1 : StOk B c S (upd H p u) := a.st R.st
  have x1 : Ext e.c0 e.H0 c (upd H p u) := a.ext R.ext n0
  have lt : i < sl.length := by
    rcases Nat.lt_or_ge i sl.length with h | h
    · exact h
    · rw [List.getElem?_eq_none h] at hs; cases hs
  refine ⟨⟨⟨fun q f => ?_, s1.len, s1.nd, fun q hq f => ?_, fun m ob q e1 e2 => (s1.at_ m ob q e1 e2).keep keeps_add rfl⟩, a.tabs R.tb,
    ⟨fun q f => .inl (x1.F q f), fun q f => ?_, x1.ρ, x1.ρn, x1.keep, x1.dom⟩, ⟨by rw [List.length_set]; exact R.sl.len, fun j l q => ?_, fun j k' o1 o2 w q1 q2 q3 q4 => ?_⟩, R.ks⟩, k⟩
  · rcases f with f | f
    · exact s1.ff q f
    · rw [f, upd_same]; exact fun z => by cases z
  · rcases f with f | f
    · exact s1.nf q hq f
    · exact nρ (by rw [← f]; exact hq)
  · rcases f with f | f
    · exact x1.Fn q f
    · exact .inr ⟨by rw [f]; exact n0, by rw [f, upd_same]; exact fun z => by cases z⟩
  · by_cases hj : i = j
    · subst hj
      rw [List.getElem?_set_self lt] at q
      cases q
      exact ⟨_, h1, rv⟩
    · rw [List.getElem?_set_ne hj] at q
      obtain ⟨w, h2, h3⟩ := R.sl.at_ j l q
      refine ⟨w, h2, ?_⟩
      cases l with
      | val d => exact RV.keep k h3
      | clo m => exact h3
      | own o2 =>
        obtain ⟨p2, rfl, nF2, nρ2, n2, ob2⟩ := h3
        have hne : p2 ≠ p := fun z => hj (R.sl.apart i j o o2 (.ref p) hs q h1 (by rw [h2, z]))
        exact ⟨p2, rfl, fun f => f.elim nF2 hne, nρ2, n2, ob2.keep k (upd_ne hne)⟩
  · have back : ∀ {j : Nat} {o1 : Ob}, (sl.set i (some (.val d)))[j]? = some (some (.own o1)) → sl[j]? = some (some (.own o1)) := fun {j o1} q => by
      by_cases hj : i = j
      · subst hj; rw [List.getElem?_set_self lt] at q; cases q
      · rw [List.getElem?_set_ne hj] at q; exact q
    exact R.sl.apart j k' o1 o2 w (back q1) (back q2) q3 q4
end
def mFrz (i : Nat) : MS := fun v S => match v.sl[i]? with
  | some (some (.own o)) => match o.d with
    | some d => some (.nx (v.sl.set i (some (.val d))) S)
    | none => none
  | some (some (.val _)) => some (.nx v.sl S)
  | _ => none
section
variable {X : Cx} {T : List NTab} {W : WX} {st : Stmt} {sts body : List Stmt} {a b ix cnd tg iter : Expr} {es : List Expr} {pos p1 p2 : Pos} {m md mi : M D} {mt : M Bool} {ms : M (List D)} {m2 mb : MS}
theorem RKs.add {K : PySem.W.Frag} {c : Cg} {H : Hp} {p : Addr} {kvs : List (D × D)} {es : List (Key × V)} {u : HO} (k : Keeps c H c (upd H p u)) (r : RKs K c H kvs es) : RKs K (c.add p) (upd H p u) kvs es := (r.keep k).keep keeps_add
theorem sb_frz {i : Nat} (h : SB X T W sts m2) : SB X T W sts (mSeq (mFrz i) m2) := by
  refine ⟨fun pins s σ H Z I ⟨e, c, S, sl, R0, p⟩ => ?_⟩
  have p0 : PSt (bo X T) W e c H (mSeq (mFrz i) m2 ⟨sl, e.κs⟩ S) Z := p
  unfold mSeq mFrz at p0
  cases hq : sl[i]? with
  | none => simp only [hq] at p0; exact p0.elim
  | some l =>
    cases l with
    | none => simp only [hq] at p0; exact p0.elim
    | some l =>
      cases l with
      | clo j => simp only [hq] at p0; exact p0.elim
      | val d =>
        simp only [hq] at p0
        exact h.run pins s σ H Z I ⟨e, c, S, sl, R0, p0⟩
      | own o =>
        obtain ⟨v, h1, q, rfl, nF, nρ, n0, ob⟩ := R0.sl.at_ i _ hq
        cases o with
        | ins x fs => simp only [hq, Ob.d] at p0; exact p0.elim
        | lst ds =>
          simp only [hq, Ob.d] at p0
          obtain ⟨xs, e1, z, r⟩ := ob
          have a : Priv c H q := ⟨nF, nρ, .inl ⟨_, e1⟩⟩
          obtain ⟨R1, k1⟩ := R0.frz (u := .lst xs) (d := .lst ds) hq h1 (fun _ _ z => by cases z) (.lst (.inr rfl) (.inl upd_same) z ((r.keep a.keeps).keep keeps_add))
          rw [upd_self e1] at R1 k1
          exact h.run pins s σ H Z I ⟨e, _, S, _, R1, p0.mono k1⟩
        | dct kvs =>
          simp only [hq, Ob.d] at p0
          rcases ob with ⟨es, e1, z, r⟩ | ⟨es, e1, z, r⟩
          · have a : Priv c H q := ⟨nF, nρ, .inr (.inl ⟨_, e1⟩)⟩
            obtain ⟨od, I1⟩ := I.lock e1 trivial
            obtain ⟨R1, k1⟩ := R0.frz (u := .frz od (.dK es)) (d := .dct kvs) hq h1 (fun _ _ z => by cases z) (.dK (.inr rfl) upd_same z ((r.keep a.keeps).keep keeps_add))
            exact h.run pins s σ _ Z I1 ⟨e, _, S, _, R1, p0.mono k1⟩
          · have a : Priv c H q := ⟨nF, nρ, .inr (.inr ⟨_, e1⟩)⟩
            obtain ⟨od, I1⟩ := I.lock e1 trivial
            obtain ⟨R1, k1⟩ := R0.frz (u := .frz od (.dT es)) (d := .dct kvs) hq h1 (fun _ _ z => by cases z) (.dT (.inr rfl) upd_same z ((r.keep a.keeps).keep keeps_add))
            exact h.run pins s σ _ Z I1 ⟨e, _, S, _, R1, p0.mono k1⟩
/-! ### x.append(e) -/
def appN (i : Nat) (d : D) : MS := fun v S => match v.sl[i]? with
  | some (some (.own (.lst xs))) => if xs.length < sizeLine then some (.nx (v.sl.set i (some (.own (.lst (xs ++ [d]))))) S) else none
  | _ => none
def mHasL (i : Nat) (m : MS) : MS := fun v S => match v.sl[i]? with
  | some (some (.own (.lst _))) => m v S
  | _ => none
def mApp (i : Nat) (md : M D) : MS := mHasL i (mThen md fun d => appN i d)
theorem ss_app {i : Nat} {x : Str} (hN : X.N[i]? = some x) (hv : Vis X.env.scope x) (hd : (x == ("__debug__" : Str)) = false) (hcd : (x == ("__classdict__" : Str)) = false) (ha : EE X T W a md)
    (hbase : attributeBase (.Name x p1) "append" X.env (eval (.Name x p1) X.env) = eval (.Name x p1) X.env)
    (hfew : ((backTo pos (starEach [a] X.env)).all (fun x => !x.1) && (backToKw pos (keywordEach [] X.env)).all (fun x => x.1.isSome)
      && decide (([a] : List Expr).length + ([] : List Keyword).length + (if ([] : List Keyword).isEmpty then 0 else 1) < 30)) = true)
    (hline : (p2.endLine == pos.line) = true) (hs : starEach [a] X.env = (false, eval a X.env) :: starEach [] X.env) (hplain : (backTo pos (starEach [] X.env)).any (·.1) = false)
    (hsw : swapsWith (.Call (.Attribute (.Name x p1) "append" p2) [a] [] pos) none pos.line X.env = pure false) :
    SS X T W (.Expr (.Call (.Attribute (.Name x p1) "append" p2) [a] [] pos) pos) (mApp i md) := by
  refine ps_imp (ps_expr (pe_bm PySem.F.plainAttrs_list F.slot_list_append rfl mt_append (pe_var hN hv hd hcd) (pa_cons ha pa_nil hs) hbase hfew hline hs hplain) hsw) fun Z σ H ⟨e, c, S, sl, R0, p⟩ => ?_
  have p0 : PSt (bo X T) W e c H (mHasL i (mThen md fun d => appN i d) ⟨sl, e.κs⟩ S) Z := p
  unfold mHasL at p0
  split at p0
  case h_2 => exact p0.elim
  rename_i xs hq
  simp only at hq
  obtain ⟨v, h1, q, rfl, nF, nρ, n0, ys, e1, z, r⟩ := R0.sl.at_ i _ hq
  refine ⟨_, h1, .inl ⟨rfl, ys, .of e1⟩, e, c, S, sl, R0, (PSt.thn (r1 := RV X.K) R0 p0).imp fun b H1 ⟨c1, S1, d, R1, k1, rv, p1⟩ => ?_⟩
  obtain ⟨v', h1', q', e', nF', nρ', n0', ys', e1', z', r'⟩ := R1.sl.at_ i _ hq
  rw [h1] at h1'
  cases h1'
  cases e'
  have p1' : PSt (bo X T) W e c1 H1 (appN i d ⟨sl, e.κs⟩ S1) Z := p1
  unfold appN at p1'
  simp only [hq] at p1'
  split at p1'
  · rename_i hlt
    have hlt' : ys'.length < sizeLine := by rw [← r'.length]; exact hlt
    have a : Priv c1 H1 q := ⟨nF', nρ', .inl ⟨_, e1'⟩⟩
    obtain ⟨R2, k2⟩ := R1.mut (o' := .lst (xs ++ [d])) (u := .lst (ys' ++ [b])) hq h1 (fun _ _ z => by cases z) ⟨_, upd_same, by rw [List.length_append]; exact hlt', (r'.keep a.keeps).append (.cons (rv.keep a.keeps) .nil)⟩
    exact ⟨q, ys', b, rfl, rfl, e1', hlt', p1' c1 _ σ R2 k2⟩
  · exact p1'.elim
/-! ### loops -/
def mLoop (mb k : MS) : MS := fun v S => match mb v S with
  | some (.nx sl S') => k ⟨sl, v.κs⟩ S'
  | some (.ct sl S') => k ⟨sl, v.κs⟩ S'
  | some (.bk sl S') => some (.nx sl S')
  | r => r
theorem PSt.loop {B : Bd} {e : En} {c : Cg} {H : Hp} {Z : Ends} {k : MS} {sl : List (Option Sl)} {S : Sto} {N : L2.St → Hp → Prop} (p : PSt B W e c H (mLoop mb k ⟨sl, e.κs⟩ S) Z)
    (hN : ∀ c' S' sl' σ' H', Rp B e c' S' sl' σ' H' → Keeps c H c' H' → PSt B W e c' H' (k ⟨sl', e.κs⟩ S') Z → N σ' H') : PSt B W e c H (mb ⟨sl, e.κs⟩ S) { Z with nx := N, ct := N, bk := Z.nx } := by
  unfold mLoop at p
  cases q : mb ⟨sl, e.κs⟩ S with
  | none => rw [q] at p; exact p
  | some r =>
    rw [q] at p
    cases r with
    | nx sl' S' => exact fun c' H' σ' R k' => hN c' S' sl' σ' H' R k' (PSt.mono k' p)
    | ct sl' S' => exact fun c' H' σ' R k' => hN c' S' sl' σ' H' R k' (PSt.mono k' p)
    | bk sl' S' => exact p
    | rt d S' => exact p
    | er x sl' S' => exact p
def whileN (mt : M Bool) (mb : MS) : Nat → MS
  | 0 => mStuck
  | n + 1 => mThen mt fun k => if k then mLoop mb (whileN mt mb n) else mSkip
theorem ss_while (n : Nat) (hp : PassesOwn (model X.prog X.w) X.A X.env X.xe) (hc : ET X T W cnd mt) (hb : SB X T W body mb) : SS X T W (.While cnd body [] pos) (whileN mt mb n) :=
  ps_imp (ps_while hp hc hb) fun Z σ H ⟨e, c, S, sl, R0, p⟩ => by
    refine ⟨fun n σ H => ∃ c S sl, Rp (bo X T) e c S sl σ H ∧ PSt (bo X T) W e c H (whileN mt mb n ⟨sl, e.κs⟩ S) Z, ⟨n, c, S, sl, R0, p⟩, ?_⟩
    rintro m σ H ⟨c, S, sl, R, p⟩
    cases m with
    | zero => exact p.elim
    | succ m =>
      refine ⟨e, c, S, sl, R, (PSt.thn (r1 := relB) R p).imp fun b H1 ⟨c1, S1, k, R1, k1, rb, p1⟩ => ?_⟩
      have rb' : k = b := rb
      subst rb'
      cases k with
      | true =>
        rw [if_pos rfl]
        refine ⟨fun σ H => ∃ c S sl, Rp (bo X T) e c S sl σ H ∧ PSt (bo X T) W e c H (whileN mt mb m ⟨sl, e.κs⟩ S) Z, fun σ' H' h => ⟨m, Nat.lt_succ_self m, h⟩, e, c1, S1, sl, R1, ?_⟩
        exact PSt.loop p1 fun c' S' sl' σ' H' R' _ p' => ⟨c', S', sl', R', p'⟩
      | false => rw [if_neg Bool.false_ne_true]; exact p1 c1 H1 σ R1 .refl
def forL (t : Tg) (mb : MS) : List D → MS
  | [] => mSkip
  | d :: ds => fun v S => match bindT t d v.sl with
    | none => none
    | some sl => mLoop mb (forL t mb ds) ⟨sl, v.κs⟩ S
def mFor (mi : M (List D)) (t : Tg) (mb : MS) : MS := mThen mi fun ds => forL t mb ds
theorem ss_for {t : Tg} (hp : PassesOwn (model X.prog X.w) X.A X.env X.xe) (hc : X.calm = true) (hi : IE X T W tg iter ms) (hg : PG X tg (gT X.K t)) (hb : SB X T W body mb) (hs : ∀ x, foldedSetIterable iter X.env x = pure x) :
    SS X T W (.For tg iter body [] pos) (mFor ms t mb) := ps_imp (ps_for hp hc hi hg hb hs) fun Z σ H ⟨e, c, S, sl, R0, p⟩ => by
  refine ⟨e, c, S, sl, R0, (PSt.thn (r1 := rI X.K) R0 p).imp fun J H1 ⟨c1, S1, ds, R1, k1, ⟨wk, zn⟩, p1⟩ => ?_⟩
  refine ⟨fun i m σ H => i ≤ ds.length ∧ m = ds.length - i ∧ ∃ c S sl, Rp (bo X T) e c S sl σ H ∧ Keeps c1 H1 c H ∧ PSt (bo X T) W e c H (forL t mb (ds.drop i) ⟨sl, e.κs⟩ S) Z,
    ⟨ds.length, Nat.zero_le _, rfl, c1, S1, sl, R1, .refl, p1⟩, ?_⟩
  rintro i m σ H ⟨hi, rfl, c, S, sl, R, k, p⟩
  by_cases hlt : i < ds.length
  · have hdrop := List.drop_eq_getElem_cons hlt
    rw [hdrop] at p
    refine .inr ⟨wk.go i c H hlt k, fun σ H => ∃ c S sl, Rp (bo X T) e c S sl σ H ∧ Keeps c1 H1 c H ∧ PSt (bo X T) W e c H (forL t mb (ds.drop (i + 1)) ⟨sl, e.κs⟩ S) Z,
      fun σ' H' ⟨c', S', sl', R', k', p'⟩ => ⟨ds.length - (i + 1), by omega, hlt, rfl, c', S', sl', R', k', p'⟩, fun x H' y => ?_⟩
    obtain ⟨d, c', hd, x', rv⟩ := wk.yld i c H x H' hlt k y
    have ed : d = ds[i] := by rw [List.getElem?_eq_getElem hlt] at hd; exact (Option.some.inj hd).symm
    subst ed
    have R' := R.toP x'
    have p' : PSt (bo X T) W e c H ((match bindT t ds[i] sl with
      | none => none
      | some sl => mLoop mb (forL t mb (ds.drop (i + 1))) ⟨sl, e.κs⟩ S) : Option FlR) Z := p
    cases hb : bindT t ds[i] sl with
    | none => rw [hb] at p'; exact p'.elim
    | some sl' =>
      rw [hb] at p'
      refine gT_use t R' rv hb fun σ' R2 _ => ⟨e, c', S, sl', R2, ?_⟩
      exact PSt.loop (PSt.mono x'.keeps p') fun c2 S2 sl2 σ2 H2 R2 k2 p2 => ⟨c2, S2, sl2, R2, k.trans (x'.keeps.trans k2), p2⟩
  · have e1 : i = ds.length := by omega
    subst e1
    rw [List.drop_length] at p
    exact .inl ⟨wk.stop c H k, p c H σ R .refl⟩
/-! ### a comprehension that is assigned -/
theorem ss_setLc {elt : Expr} {ifs : List Expr} {scope : Scope} {own : List (Str × Nat)} {t : Tg} {i : Nat} {y : Str} {py : Pos} {mi : M (List D)} {me : M D} {spos : Pos} (hc : X.calm = true) (hN : X.N.Nodup) (hy : X.N[i]? = some y) (hyl : X.env.scope.names.lookup y = some .local)
    (hsw : swapsWith (.ListComp elt [⟨tg, iter, ifs, 0⟩] scope pos) (some (.Name y py)) spos.line X.env = pure true) (hi : IE X T W tg iter mi) (ok : BlkOk X.N X.env.scope scope own)
    (hg : ∀ (s : Shared) (H : Hp) (C : Addr) (cl : List (Str × Addr)) (fp : List Addr), PG (X.blk s H scope (compEnvC scope cl C X.env) fp) tg (gT X.K t))
    (ht : ∀ (s : Shared) (H : Hp) (C : Addr) (cl : List (Str × Addr)) (fp : List Addr), PTs (X.blk s H scope (compEnvC scope cl C X.env) fp) ifs (TM (bo X T) WF relB mt))
    (he : ∀ (s : Shared) (H : Hp) (C : Addr) (cl : List (Str × Addr)) (fp : List Addr), EE (X.blk s H scope (compEnvC scope cl C X.env) fp) T WF elt me) (hs : ∀ x, foldedSetIterable iter X.env x = pure x)
    (hix : ∀ i ∈ t.ix, i ∈ own.map (·.2)) : SS X T W (.Assign [.Name y py] (.ListComp elt [⟨tg, iter, ifs, 0⟩] scope pos) spos) (mSet i (mLs (mComp mi t (own.map (·.2)) mt me))) :=
  ss_setG (ps_setLc (te := TM (bo X T) WF (RV X.K) me) hc hN hy hyl hsw hi ok hg ht he hs) fun σ H Q h => lc_of (ls_of (B := bo X T) h) hix
end
end Lk
set_option Elab.async false
set_option linter.all false
set_option maxRecDepth 100000
set_option maxHeartbeats 1000000
set_option autoImplicit false
namespace Lk
open PySem PySem.Spec PyProof.Rows L2 NdefX
/-! ### subscripts of shared objects too -/
def ixS (S : Sto) : D → D → Option D
  | .obj j, k => match S[j]? with
    | some o => match o.d with
      | some d => ixD d k
      | none => none
    | none => none
  | d, k => ixD d k
def mIxS (ma mb : M D) : M D := mBind ma fun a => mBind mb fun b => fun _ S => match ixS S a b with
  | some d => some (.ok d S)
  | none => none
/-- a container as one sees it, wherever it stands -/
inductive RC (K : PySem.W.Frag) (c : Cg) (H : Hp) : D → V → Prop
  | rb {d : D} {v : V} : RB K c H d v → RC K c H d v
  | lst {p : Addr} {xs : List V} {ds : List D} : H p = some (.lst xs) → xs.length ≤ sizeLine → RVs K c H ds xs → RC K c H (.lst ds) (.ref p)
  | dK {p : Addr} {es : List (Key × V)} {kvs : List (D × D)} : H p = some (.dK es) → es.length ≤ sizeLine → RKs K c H kvs es → RC K c H (.dct kvs) (.ref p)
  | dT {p : Addr} {es : List (List Key × V)} {kvs : List (D × D)} : H p = some (.dT es) → es.length ≤ sizeLine → RTs K c H kvs es → RC K c H (.dct kvs) (.ref p)
theorem obAt_rc {B : Bd} {c : Cg} {H : Hp} {p : Addr} {o : Ob} {d : D} (ob : ObAt B c H p o) (e : o.d = some d) : RC B.K c H d (.ref p) := by
  cases o with
  | ins x fs => cases e
  | lst ds =>
    cases e
    obtain ⟨xs, h1, z, r⟩ := ob
    exact .lst h1 z r
  | dct kvs =>
    cases e
    rcases ob with ⟨es, h1, z, r⟩ | ⟨es, h1, z, r⟩
    · exact .dK h1 z r
    · exact .dT h1 z r
/-- a shared object is no shared object of this frame for the reading: forget who else knows it -/
def Cg.bare (c : Cg) : Cg := { c with ρ := [] }
def noObj : D → Bool
  | .obj _ => false
  | _ => true
section
variable {X : Cx} {T : List NTab} {W : WX} {a b : Expr} {pos : Pos} {ma mb : M D} {hu : X.A.units + 1 < cLine}
theorem dg_of {K : PySem.W.Frag} {c : Cg} {H : Hp} {kvs : List (D × D)} {k d : D} {x : V} {p : Addr} (hk : RV K c H k x) (hh : (∃ es, Rd H p (.dK es) ∧ RKs K c H kvs es) ∨ ∃ es, Rd H p (.dT es) ∧ RTs K c H kvs es) (e : lookD kvs k = some (some d)) :
    ∃ v, DGet H p x (some v) ∧ RV K c H d v := by
  unfold lookD at e
  split at e
  · rename_i q hq
    split at e
    · rename_i ho
      have e := Option.some.inj e
      cases q with
      | inl k' =>
        have ek := keyQ_inl hq
        subst ek
        have ey := kV_kD hk
        subst ey
        rcases hh with ⟨es, hr, r⟩ | ⟨es, hr, r⟩
        · rcases findK k' r with ⟨h1, h2⟩ | ⟨d', v, h1, h2, h3⟩
          · rw [h1] at e; cases e
          · rw [h1] at e; cases e
            exact ⟨v, .inl ⟨es, k', hr, rfl, h2.symm⟩, h3⟩
        · obtain ⟨e1, e2⟩ := kind_T r ho
          subst e1
          cases e
      | inr k' =>
        have ek := keyQ_inr hq
        subst ek
        obtain ⟨b, rfl, eb⟩ := kT_at hk
        rcases hh with ⟨es, hr, r⟩ | ⟨es, hr, r⟩
        · obtain ⟨e1, e2⟩ := kind_K r ho
          subst e1
          cases e
        · rcases findT k' r with ⟨h1, h2⟩ | ⟨d', v, h1, h2, h3⟩
          · rw [h1] at e; cases e
          · rw [h1] at e; cases e
            exact ⟨v, .inr ⟨es, k', b, hr, rfl, eb, h2.symm⟩, h3⟩
    · cases e
  · cases e
def rIxC (K : PySem.W.Frag) : R2 := fun x y H Q => ∃ c a b d, RC K c H a x ∧ RV K c H b y ∧ ixD a b = some d ∧ ∀ v, RV K c H d v → Q v H
theorem ix_c (hu : X.A.units + 1 < cLine) : IxR X (rIxC X.K) := by
  intro value slice pins s σ H x y v u Q I rx ry h hs
  obtain ⟨c, a, b, d, ra, rb, e, k⟩ := h
  cases ra with
  | rb ra => exact ix_d hu value slice pins s σ H x y v u Q I rx ry ⟨c, a, b, d, ra, rb, e, k⟩ hs
  | lst h1 z r =>
    cases b <;> try (cases e; done)
    obtain rfl := rb.intAt
    obtain ⟨w, e1, rw'⟩ := r.atI e
    exact ix_list value slice pins s σ H _ _ v u Q I rx ry ⟨_, _, _, w, rfl, rfl, .of h1, e1, k w rw'⟩ hs
  | @dK p es kvs h1 z r =>
    have e' := e
    simp only [ixD] at e'
    split at e'
    · rename_i d' hl
      cases e'
      obtain ⟨v2, g, rv⟩ := dg_of rb (.inl ⟨_, .inl h1, r⟩) hl
      cases rx
      exact tail_any (dict_typeIs I g) PySem.F.slot_dict_getitem.lookup (d_getItem hu I g ry fun w' s3 I3 rw' => ⟨v2, H, I3, rw', k v2 rv⟩) hs
    · cases e'
  | @dT p es kvs h1 z r =>
    have e' := e
    simp only [ixD] at e'
    split at e'
    · rename_i d' hl
      cases e'
      obtain ⟨v2, g, rv⟩ := dg_of rb (.inr ⟨_, .inl h1, r⟩) hl
      cases rx
      exact tail_any (dict_typeIs I g) PySem.F.slot_dict_getitem.lookup (d_getItem hu I g ry fun w' s3 I3 rw' => ⟨v2, H, I3, rw', k v2 rv⟩) hs
    · cases e'
theorem ixS_rc {B : Bd} {c : Cg} {S : Sto} {H : Hp} {a b d : D} {v : V} (s : StOk B c S H) (ra : RB B.K c H a v) (e : ixS S a b = some d) : ∃ a', RC B.K c H a' v ∧ ixD a' b = some d := by
  cases a with
  | obj j =>
    have e' : (match S[j]? with
      | some o => match o.d with
        | some d => ixD d b
        | none => none
      | none => none) = some d := by simpa only [ixS] using e
    split at e'
    · rename_i o ho
      split at e'
      · rename_i d' hd
        cases ra with
        | rv ra =>
          cases ra with
          | obj hk => exact ⟨d', obAt_rc (s.at_ j o _ ho hk) hd, e'⟩
      · cases e'
    · cases e'
  | _ => exact ⟨_, .rb ra, e⟩
theorem ee_ixS (hu : X.A.units + 1 < cLine) (ha : EB X T W a ma) (hb : EE X T W b mb) (hs : PlainIx b) : EE X T W (.Subscript a b pos) (mIxS ma mb) :=
  pe_imp (pe_ix (ix_c hu) ha hb hs) fun σ H Q h => by
    obtain ⟨e, c, S, sl, R0, p⟩ := TM.bind2B (r1' := RV X.K) h
    refine ⟨e, c, S, sl, R0, p.imp fun b1 H1 ⟨e, c, S, sl, R1, p1⟩ => ⟨e, c, S, sl, R1, p1.imp fun b2 H2 ⟨e, c, S, sl, a, a', R2, ra, rb, p2⟩ => ?_⟩⟩
    split at p2
    · rename_i d hd
      obtain ⟨a2, rc, e2⟩ := ixS_rc R2.st ra hd
      exact ⟨c, a2, a', d, rc, rb, e2, fun v rv => p2.ret R2 rv⟩
    · exact p2.elim
end
/-! ### functions -/
def sl1 : D → Sl
  | .clo j => .clo j
  | d => .val d
@[simp] def startSl (n : Nat) (ds : List D) : List (Option Sl) := ds.map (fun d => some (sl1 d)) ++ List.replicate (n - ds.length) none
/-- what a body means, as a function: n the number of its names -/
def semOf (n : Nat) (m : MS) : FSem := fun ds κs S => match m ⟨startSl n ds, κs⟩ S with
  | some (.nx _ S') => some (.ok .non S')
  | some (.rt d S') => some (.ok d S')
  | some (.er x _ S') => some (.er x S')
  | _ => none
theorem start_slots {B : Bd} {c : Cg} {H : Hp} {κs : List Lk.Sem} {vκ : List V} {N : List Str} : ∀ {ds : List D} {vs : List V}, RAs B.K vκ c H ds vs → Slots B ⟨c, H, κs, vκ⟩ c H (startSl N.length ds) (start N vs) := by
  intro ds vs r
  have hl := r.length
  have at1 : ∀ {ds : List D} {vs : List V}, RAs B.K vκ c H ds vs → ∀ (i : Nat) s, (ds.map (fun d => some (sl1 d)))[i]? = some (some s) → ∃ v, (vs.map some)[i]? = some (some v) ∧ SlAt B ⟨c, H, κs, vκ⟩ c H s v ∧ ∀ o, s ≠ .own o := by
    intro ds vs r
    induction r with
    | nil => intro i s q; simp at q
    | cons h r ih =>
      intro i s q
      cases i with
      | zero =>
        simp only [List.map_cons, List.getElem?_cons_zero, Option.some.injEq] at q
        subst q
        refine ⟨_, rfl, ?_⟩
        cases h with
        | rv h => cases h <;> exact ⟨by first | exact RV.non | exact RV.bl _ | exact RV.int _ | exact RV.str ‹_› | exact RV.tup ‹_› ‹_› ‹_› | exact RV.lst ‹_› ‹_› ‹_› ‹_› | exact RV.dK ‹_› ‹_› ‹_› ‹_› | exact RV.dT ‹_› ‹_› ‹_› ‹_› | exact RV.obj ‹_› | exact RV.klF ‹_› ‹_› ‹_› ‹_› | exact RV.klK ‹_› ‹_› ‹_› | exact RV.ktK ‹_› ‹_› ‹_›, fun o z => by cases z⟩
        | clo h => exact ⟨h, fun o z => by cases z⟩
      | succ i =>
        simp only [List.map_cons, List.getElem?_cons_succ] at q ⊢
        exact ih i s q
  have no : ∀ (i : Nat) s, (startSl N.length ds)[i]? = some (some s) → (ds.map (fun d => some (sl1 d)))[i]? = some (some s) := by
    intro i s q
    unfold startSl at q
    by_cases h : i < (ds.map (fun d => some (sl1 d))).length
    · rw [List.getElem?_append_left h] at q; exact q
    · rw [List.getElem?_append_right (Nat.le_of_not_lt h), List.getElem?_replicate] at q
      split at q <;> cases q
  refine ⟨?_, fun i s q => ?_, fun i j o o' v q1 q2 q3 q4 => ?_⟩
  · unfold startSl L2.start
    rw [List.length_append, List.length_append, List.length_map, List.length_map, List.length_replicate, List.length_replicate, hl]
  · obtain ⟨v, h1, h2, _⟩ := at1 r i s (no i s q)
    refine ⟨v, ?_, h2⟩
    unfold L2.start
    have hlt : i < (vs.map some).length := (List.getElem?_eq_some_iff.mp h1).1
    rw [List.getElem?_append_left hlt]; exact h1
  · obtain ⟨_, _, _, h⟩ := at1 r i _ (no i _ q1)
    exact absurd rfl (h o)
/-- THE RULE for a def: its body's meaning m -/
theorem fn_ok {B : Bd} {x qual : Str} {params : Arguments} {body : List Stmt} {scope : Scope} {dvs : List V} {f : Addr} {fd : FuncData} {N ps : List Str} {k : Nat} {m : MS} (F : FunD B.K x qual params body scope dvs [] f fd) (S : FnScope N ps scope)
    (hb : ∀ (cdv : Value) (A : Around) (outer : List Env) (s : Shared) (H : Hp) (E : XK), Room k (A.deeper (envOfC qual scope s.heap.objs.size f cdv)) →
      SB (cxOf (L2.CX B.P B.w) B.P B.w B.K B.mg B.base N qual scope f cdv A outer s H E) B.T (fun cls dd _ H => E cls dd H) body m) :
    FnOk B.P B.w B.K B.mg B.base (L2.CX B.P B.w) (k + 1) f fd ps (spOf B ps.length (semOf N.length m)) := by
  refine F.ok S (fun vs H Q E h => h.1) fun cdv A outer s H vs Q E hr h => ⟨_, hb cdv A outer s H E hr, ?_⟩
  obtain ⟨hl, c, S0, ds, κs, vκ, st, tb, ks, ra, pf⟩ := h
  refine ⟨⟨c, H, κs, vκ⟩, c, S0, startSl N.length ds, ⟨st, tb, .refl, start_slots ra, ks⟩, ?_⟩
  unfold semOf at pf
  show PSt _ _ _ c H (m ⟨startSl N.length ds, κs⟩ S0) _
  cases q : m ⟨startSl N.length ds, κs⟩ S0 with
  | none => rw [q] at pf; exact pf
  | some r =>
    rw [q] at pf
    cases r with
    | nx sl S' => exact fun c' H' σ' R k => pf c' H' .non R.ext R.st R.tb .non
    | bk sl S' => exact pf.elim
    | ct sl S' => exact pf.elim
    | rt d S' => exact fun c' H' v st tb x rv => pf c' H' v x st tb rv
    | er x sl S' => exact fun c' H' cls dd σ' R k rx => pf c' H' cls dd R.ext R.st R.tb rx
end Lk
set_option Elab.async false
set_option linter.all false
set_option maxRecDepth 100000
set_option maxHeartbeats 1000000
set_option autoImplicit false
namespace Lk
open PySem PySem.Spec PyProof.Rows L2 NdefX
theorem okS_lit {x : Str} (h : (decide (x.length ≤ 1000) && PyData.strOk x) = true) : okS x := by
  obtain ⟨h1, h2⟩ := Bool.and_eq_true_iff.mp h
  have h3 := of_decide_eq_true h1
  exact ⟨by rw [sizeLine_eq]; omega, h2⟩
/-- lengths of argument lists -/
def Ln (ms : M (List D)) (n : Nat) : Prop := ∀ v S ds S', ms v S = some (.ok ds S') → ds.length = n
theorem ln_nil : Ln mNil 0 := fun v S ds S' h => by cases h; rfl
theorem ln_cons {ma : M D} {ms : M (List D)} {n : Nat} (h : Ln ms n) : Ln (mCons ma ms) (n + 1) := fun v S ds S' e => by
  unfold mCons mBind at e
  split at e
  · cases e
  · cases e
  · simp only at e
    split at e
    · cases e
    · cases e
    · rename_i as S2 hq
      cases e
      exact congrArg (· + 1) (h _ _ _ _ hq)
section
variable {X : Cx} {T : List NTab} {W : WX} {st : Stmt} {a b e o ix cnd tg iter : Expr} {es : List Expr} {pos p p1 p2 : Pos} {m md mi ma mb mc me : M D} {mt : M Bool} {ms mk : M (List D)}
/-- *e -/
def mStr (ma : M D) (ms : M (List D)) : M (List D) := mBind ma fun a => mBind (mOpt (itemsD a)) fun as => mBind ms fun bs => mRet (as ++ bs)
theorem ea_star (ha : EE X T W a ma) (hr : EA X T W es ms) (hs : starEach (.Starred a p :: es) X.env = (true, eval a X.env) :: starEach es X.env) : EA X T W (.Starred a p :: es) (mStr ma ms) :=
  pa_imp (StX.pa_star ha hr hs) fun σ H Q h => by
    obtain ⟨e, c, S, sl, R0, p⟩ := TM.bind (r1 := RV X.K) h
    refine ⟨e, c, S, sl, R0, p.imp fun b1 H1 ⟨e, c, S, sl, a, R1, ra, p1⟩ => ?_⟩
    obtain ⟨as, hd, p2⟩ := p1.bindO
    have fin : ∀ xs, RVs X.K c H1 as xs → TM (bo X T) W (RVs X.K) ms σ H1 fun ys H2 => Q (xs ++ ys) H2 := fun xs r =>
      ⟨e, c, S, sl, R1, (PM.bind (r1 := RVs X.K) p2).imp fun b2 H2 ⟨c2, S2, a2, R2, x2, ra2, p3⟩ => p3.ret R2 ((r.keep (x2.keeps R1.st)).append ra2)⟩
    cases a <;> simp only [itemsD, reduceCtorEq, Option.some.injEq] at hd
    · subst hd
      obtain ⟨q, xs, rfl, h1, z, r⟩ := ra.tupAt
      exact ⟨q, xs, rfl, .inl (.of h1), fin xs r⟩
    · subst hd
      obtain ⟨q, xs, rfl, _, h1, z, r⟩ := ra.lstAt
      exact ⟨q, xs, rfl, .inr (.inl h1), fin xs r⟩
/-- -e -/
def negD : D → Option D
  | .int i => some (.int (-i))
  | _ => none
def mNeg (ma : M D) : M D := mBind ma fun a => mOpt (negD a)
theorem ee_neg (ha : EE X T W a ma) : EE X T W (.UnaryOp .USub a pos) (mNeg ma) := pe_imp (pe_un un_neg ha) fun σ H Q h => by
  obtain ⟨e, c, S, sl, R0, p⟩ := TM.bind (r1 := RV X.K) h
  refine ⟨e, c, S, sl, R0, p.imp fun b1 H1 ⟨e, c, S, sl, a, R1, ra, p1⟩ => ?_⟩
  obtain ⟨d, hd, k⟩ := p1.opt R1
  cases a <;> simp only [negD, reduceCtorEq, Option.some.injEq] at hd
  subst hd
  obtain rfl := ra.intAt
  exact ⟨_, rfl, k c H1 _ .refl (.int _)⟩
/-- tests of a comprehension -/
theorem pts0 {B : Bd} : PTs X [] (TM B W relB (mRet true)) := ⟨fun pins s σ H Q I h => pts_nil.run pins s σ H Q I (h.ret fun _ => rfl)⟩
theorem pts1 (h : ET X T W cnd mt) : PTs X [cnd] (TM (bo X T) W relB mt) := pts_one h
/-- new containers -/
theorem eo_dct0 : EO' X T W (.Dict [] [] pos) (mRet (.dct [])) := pe_imp pe_dnewK fun σ H Q ⟨e, c, S, sl, R0, p⟩ q hq => by
  have x : ExtP c H c (upd H q (.dK [])) := .new hq
  exact p c _ q (R0.toP x) x.ext hq (fun f => R0.st.ff q f hq) (fun f => by
    obtain ⟨ob, h⟩ := R0.st.mem f
    obtain ⟨u, hu⟩ := h.some_
    rw [hq] at hu; cases hu) (.inl ⟨[], upd_same, by rw [sizeLine_eq]; decide, .nil⟩)
def mLN (ms : M (List D)) : M (List D) := mBind ms fun ds => if ds.length ≤ sizeLine then mRet ds else mOpt none
theorem en_lst (h : EA X T W es ms) : EN X T W (.List es pos) (mLN ms) := pe_imp (pe_lst h) fun σ H Q ⟨e, c, S, sl, R0, p⟩ => ⟨e, c, S, sl, R0, by
  have p0 : PMN (bo X T) W e sl σ c H (mLN ms ⟨sl, e.κs⟩ S) Q := p
  unfold mLN mBind at p0
  cases hq : ms ⟨sl, e.κs⟩ S with
  | none => rw [hq] at p0; exact p0
  | some r =>
    rw [hq] at p0
    cases r with
    | er x S' => exact p0
    | ok ds S' =>
      intro c1 H1 vs R1 x1 r
      simp only at p0
      split at p0
      · rename_i z
        have z' : vs.length ≤ sizeLine := by rw [← r.length]; exact z
        refine ⟨z', fun q hq => ?_⟩
        have x : ExtP c1 H1 c1 (upd H1 q (.lst vs)) := .new hq
        exact p0 c1 _ q vs (R1.toP x) (x1.trans x.ext) (x1.dom q hq) (fun f => R1.st.ff q f hq) (fun f => by
          obtain ⟨ob, h⟩ := R1.st.mem f
          obtain ⟨u, hu⟩ := h.some_
          rw [hq] at hu; cases hu) upd_same z' (r.keep x.keeps)
      · exact p0.elim⟩
/-! ### methods of texts, sorted -/
/-- a method of data, by values -/
def rMt (K : PySem.W.Frag) (f : D → List D → Option D) : V → List V → Hp → VK → Prop := fun x xs H Q => ∃ c a ds d, RV K c H a x ∧ RVs K c H ds xs ∧ f a ds = some d ∧ Done K c H d Q
def mMt (ok : D → Bool) (f : D → List D → Option D) (ma : M D) (ms : M (List D)) : M D := mBind ma fun a => if ok a then mBind ms fun ds => mOpt (f a ds) else mOpt none
def isStr : D → Bool
  | .str _ => true
  | _ => false
theorem ee_mtS {f : D → List D → Option D} {name : Str} {id : String} {apos cpos : Pos} (slot : Slot "str" name id) (hty : typeOf (.builtin id) = pure (.type "method_descriptor")) (hm : MtR X id (rMt X.K f)) (ho : EE X T W o ma) (ha : EA X T W (e :: es) ms)
    (hbase : attributeBase o name X.env (eval o X.env) = eval o X.env)
    (hfew : ((backTo cpos (starEach (e :: es) X.env)).all (fun x => !x.1) && (backToKw cpos (keywordEach [] X.env)).all (fun x => x.1.isSome)
      && decide ((e :: es).length + ([] : List Keyword).length + (if ([] : List Keyword).isEmpty then 0 else 1) < 30)) = true)
    (hline : (apos.endLine == cpos.line) = true) (hs : starEach (e :: es) X.env = (false, eval e X.env) :: starEach es X.env) (hplain : (backTo cpos (starEach es X.env)).any (·.1) = false) :
    EE X T W (.Call (.Attribute o name apos) (e :: es) [] cpos) (mMt isStr f ma ms) :=
  pe_imp (pe_bm PySem.F.plainAttrs_str slot hty hm ho ha hbase hfew hline hs hplain) fun σ H Q h => by
    obtain ⟨e, c, S, sl, R0, p⟩ := TM.bind (r1 := RV X.K) h
    refine ⟨e, c, S, sl, R0, p.imp fun b1 H1 ⟨e, c, S, sl, a, R1, ra, p1⟩ => ?_⟩
    by_cases ho : isStr a = true
    · rw [if_pos ho] at p1
      cases a <;> try (cases ho; done)
      obtain ⟨rfl, _⟩ := ra.strAt
      refine ⟨rfl, e, c, S, sl, R1, (PM.bind (r1 := RVs X.K) p1).imp fun b2 H2 ⟨c2, S2, a2, R2, x2, ra2, p2⟩ => ?_⟩
      obtain ⟨d, hd, k⟩ := p2.opt R2
      exact ⟨c2, _, a2, d, ra.keep (x2.keeps R1.st), ra2, hd, fun c' H' v x r => k c' H' v x r⟩
    · rw [if_neg ho] at p1
      exact p1.elim
def splitD : D → List D → Option D
  | .str a, [.str b] => if (b.length == 0) = false ∧ a.length + 2 ≤ sizeLine ∧ (Txt.split a b).all (fun x => PyData.strOk x && decide (x.length ≤ sizeLine)) = true then some (.lst ((Txt.split a b).map .str)) else none
  | _, _ => none
theorem mt_splitD : MtR X "str.split" (rMt X.K splitD) := by
  intro pins s σ H x xs v us Q I rx rs h
  obtain ⟨c, a, ds, d, ra, rds, e, k⟩ := h
  unfold splitD at e
  split at e
  · rename_i a b
    split at e
    · rename_i hz
      obtain ⟨h1, h2, h3⟩ := hz
      cases e
      obtain ⟨rfl, o1⟩ := ra.strAt
      cases rds with
      | cons hb r =>
        cases r
        obtain ⟨rfl, o2⟩ := hb.strAt
        have hk : ∀ x ∈ Txt.split a b, okS x := fun x hx => by
          have q := List.all_eq_true.mp h3 x hx
          obtain ⟨q1, q2⟩ := Bool.and_eq_true_iff.mp q
          exact ⟨of_decide_eq_true q2, q1⟩
        refine mt_split pins s σ H _ _ v us Q I rx rs ⟨a, b, rfl, rfl, h1, h2, fun p hp => k.lst (V_strs hk) ?_ hp⟩
        rw [List.length_map]
        exact Nat.le_trans (PyProof.Rows.split_le a b) h2
    · cases e
  · cases e
/-- sorted texts -/
def insS (x : Str) : List Str → List Str
  | [] => [x]
  | y :: ys => if ltCps y.cps.toList x.cps.toList then y :: insS x ys else x :: y :: ys
def sortS (xs : List Str) : List Str := xs.foldr insS []
def leS (a b : Str) : Prop := a.cps.toList ≤ b.cps.toList
theorem leS_of {a b : Str} (h : ltCps b.cps.toList a.cps.toList = false) : leS a b := by
  rw [ltCps_eq] at h
  exact List.not_lt.mp (of_decide_eq_false h)
theorem of_leS {a b : Str} (h : leS a b) : ltCps b.cps.toList a.cps.toList = false := by
  rw [ltCps_eq]
  exact decide_eq_false (List.not_lt.mpr h)
theorem leS_trans {a b c : Str} (h : leS a b) (h' : leS b c) : leS a c := List.le_trans h h'
theorem leS_anti {a b : Str} (h : leS a b) (h' : leS b a) : a = b := by
  have e : a.cps.toList = b.cps.toList := List.le_antisymm h h'
  cases a with
  | mk x =>
    cases b with
    | mk y =>
      congr 1
      exact Array.toList_inj.mp e
theorem rising_pw : ∀ {x : Str} {xs : List Str}, risingS x xs = true → (x :: xs).Pairwise leS
  | x, [], _ => List.pairwise_singleton _ _
  | x, y :: ys, h => by
    obtain ⟨h1, h2⟩ := Bool.and_eq_true_iff.mp h
    have h3 := rising_pw h2
    have hxy : leS x y := leS_of (by simpa using h1)
    refine List.pairwise_cons.mpr ⟨fun z hz => ?_, h3⟩
    rcases List.mem_cons.mp hz with rfl | hz
    · exact hxy
    · exact leS_trans hxy ((List.pairwise_cons.mp h3).1 z hz)
theorem sorted_pw : ∀ {xs : List Str}, sortedS xs = true → xs.Pairwise leS
  | [], _ => .nil
  | _ :: _, h => rising_pw h
theorem insS_perm (x : Str) : ∀ ys, (insS x ys).Perm (x :: ys)
  | [] => .refl _
  | y :: ys => by
    unfold insS
    split
    · exact ((insS_perm x ys).cons y).trans (.swap x y ys)
    · exact .refl _
theorem insS_pw (x : Str) : ∀ {ys}, ys.Pairwise leS → (insS x ys).Pairwise leS
  | [], _ => List.pairwise_singleton _ _
  | y :: ys, h => by
    unfold insS
    obtain ⟨h1, h2⟩ := List.pairwise_cons.mp h
    split
    · rename_i hlt
      refine List.pairwise_cons.mpr ⟨fun z hz => ?_, insS_pw x h2⟩
      rcases List.mem_cons.mp ((insS_perm x ys).mem_iff.mp hz) with rfl | hz
      · rw [ltCps_eq] at hlt
        rcases List.le_total y.cps.toList z.cps.toList with g | g
        · exact g
        · exact absurd (of_decide_eq_true hlt) (List.not_lt.mpr g)
      · exact h1 z hz
    · rename_i hlt
      have hxy : leS x y := leS_of (by simpa using hlt)
      refine List.pairwise_cons.mpr ⟨fun z hz => ?_, h⟩
      rcases List.mem_cons.mp hz with rfl | hz
      · exact hxy
      · exact leS_trans hxy (h1 z hz)
theorem sortS_perm : ∀ xs, (sortS xs).Perm xs
  | [] => .refl _
  | x :: xs => (insS_perm x _).trans ((sortS_perm xs).cons x)
theorem sortS_pw : ∀ xs, (sortS xs).Pairwise leS
  | [] => .nil
  | x :: xs => insS_pw x (sortS_pw xs)
theorem sort_uniq {xs ys : List Str} (h : ys.Perm xs) (h' : sortedS ys = true) : ys = sortS xs :=
  List.Perm.eq_of_pairwise (fun a b _ _ h1 h2 => leS_anti h1 h2) (sorted_pw h') (sortS_pw xs) (h.trans (sortS_perm xs).symm)
def sortedD : List D → Option D
  | [.lst ds] => match strsD ds with
    | some zs => if zs.length < 64 then some (.lst ((sortS zs).map .str)) else none
    | none => none
  | _ => none
theorem cd_sorted : CallR X (.builtin "sorted") (rCall X.K sortedD) := by
  intro pins s σ H xs us Q I r h
  obtain ⟨c, ds, d, rs, e, k⟩ := h
  unfold sortedD at e
  split at e
  · split at e
    · rename_i zs hz
      split at e
      · rename_i h64
        cases e
        obtain ⟨v, rfl, r1⟩ := rs.one
        obtain ⟨p, ys, rfl, h1, z, r2⟩ := r1.lstAt
        obtain ⟨e1, ok⟩ := strs_V r2 hz
        subst e1
        refine cr_sortedS pins s σ H _ us Q I r ⟨p, zs, rfl, .inl h1, h64, fun ys q hp hs hq => ?_⟩
        have ey := sort_uniq hp hs
        subst ey
        refine k.lst (V_strs fun x hx => ok x ((sortS_perm zs).mem_iff.mp hx)) ?_ hq
        rw [List.length_map, (sortS_perm zs).length_eq, sizeLine_eq]
        omega
      · cases e
    · cases e
  · cases e
/-- list(d) of a dict: its keys -/
def listD2 : List D → Option D
  | [.dct kvs] => some (.lst (kvs.map (·.1)))
  | ds => listD ds
theorem isKeys_rv {K : PySem.W.Frag} {c : Cg} {H : Hp} : ∀ {kvs : List (D × D)} {es : List (List Key × V)} {bs : List Addr}, RTs K c H kvs es → Paired (fun p b => H b = some (.tup (p.1.map kV))) es bs → RVs K c H (kvs.map (·.1)) (bs.map V.ref)
  | _, _, _, .nil, .nil => .nil
  | _, _, _, .cons o h r, .cons g t => .cons (.tup g (by rw [List.length_map]; exact o.1) (kDs_rv o.2)) (isKeys_rv r t)
theorem keysK_rv {K : PySem.W.Frag} {c : Cg} {H : Hp} : ∀ {kvs : List (D × D)} {es : List (Key × V)}, RKs K c H kvs es → RVs K c H (kvs.map (·.1)) (es.map fun kv => kV kv.1)
  | _, _, .nil => .nil
  | _, _, .cons o h r => .cons (kD_rv o) (keysK_rv r)
theorem cd_list2 (hc : X.calm = true) : CallR X (.type "list") (rCall X.K listD2) := by
  intro pins s σ H xs us Q I r h
  obtain ⟨c, ds, d, rs, e, k⟩ := h
  unfold listD2 at e
  split at e
  · cases e
    obtain ⟨v, rfl, r1⟩ := rs.one
    obtain ⟨p, rfl, hh⟩ := r1.dctAt
    rcases hh with ⟨es, hr, z, rk⟩ | ⟨es, hr, z, rk⟩
    · exact call_listD hc pins s σ H _ us Q I r ⟨p, es, rfl, hr, fun q hq => k.lst (keysK_rv rk) (by rw [List.length_map]; exact z) hq⟩
    · refine call_list_dT hc pins s σ H _ us Q I r ⟨p, es, rfl, hr, fun q bs hq hk => k.lst (isKeys_rv rk hk) ?_ hq⟩
      rw [List.length_map, ← Paired.length hk]; exact z
  · exact cd_list pins s σ H xs us Q I r ⟨c, ds, d, rs, e, k⟩
/-! ### calls with keywords -/
/-- a function that is called with n values by position, the others by the names ks, in the parameters' order -/
structure FnK (B : Bd) (x : Str) (k n : Nat) (ks : List Str) (sem : FSem) : Prop where
  ok : ∃ f fd ps g, B.mg x = some (.ref f) ∧ PySem.W.keepIn B.K (.ref f) = true ∧ FnOk B.P B.w B.K B.mg B.base (L2.CX B.P B.w) k f fd ps (spOf B (n + ks.length) sem) ∧ KBn B.K fd ps n ks g (fun vs zs => vs ++ zs)
def tCallNS (n m : Nat) (sp : Sp) (gV : List V → List V → List V) (E : L2.St → XK) (t tk : TA) : TE := fun σ H Q => t σ H fun vs H1 => tk σ H1 fun zs H2 => vs.length = n ∧ zs.length = m ∧ sp (gV vs zs) H2 Q (E σ)
theorem pe_callNS {CX : CXT} {k n : Nat} {f : Addr} {fd : FuncData} {ps ks : List Str} {sp : Sp} {E : L2.St → XK} {x : Str} {kws : List Keyword} {t tk : TA} {g : List Value → List Value → List Value} {gV : List V → List V → List V}
    (F : FnOk X.prog X.w X.K X.mg X.base CX k f fd ps sp) (hr : Room k X.A) (hg : Gl X x) (hm : X.mg x = some (.ref f)) (hk : PySem.W.keepIn X.K (.ref f) = true) (hb : KBn X.K fd ps n ks g gV) (hx : ∀ σ, PassesAt CX X σ (E σ))
    (ha : PA X (e :: es) t) (hkw : PK X kws tk) (hall : (backToKw pos (keywordEach kws X.env)).all (·.1.isSome) = true) (hks : (backToKw pos (keywordEach kws X.env)).filterMap (·.1) = ks)
    (hdb : (x == ("__debug__" : Str)) = false) (he : starEach (e :: es) X.env = (false, eval e X.env) :: starEach es X.env)
    (hpl : ((backTo pos (starEach (e :: es) X.env)).any (·.1) || (backToKw pos (keywordEach kws X.env)).any (·.1.isNone)) = false) :
    PE X (.Call (.Name x p) (e :: es) kws pos) (tCallNS n ks.length sp gV E t tk) := by
  refine ⟨fun pins s σ H Q I h => ?_⟩
  refine wpAny_Call_Name_kw (ld_glob I hg hm ?_ hdb)
  refine PySem.W.callWith_KW (h₀ := X.base) I.ok.mod.kin hk hall (thn (ha.run pos pins s σ H _ I h) fun us s1 ⟨vs, H1, I1, r, q⟩ => ?_) hpl he
  refine thn (hkw.run pos pins s1 σ H1 _ I1 q) fun ws s2 ⟨zs, H2, I2, rz, l1, l2, q2⟩ => ⟨I2.kIn, ?_⟩
  rw [hks]
  have r2 := hb.rel r rz
  refine wpAny_call (codeAny_mono (F.run X.A X.stack s2 H2 ⟨us, ks.zip ws⟩ (g us ws) (gV vs zs) Q (E σ) hr I2.env0 (hb.to s2 us ws I2.kIn (r.length.symm.trans l1) (rz.length.symm.trans l2)) r2 q2) fun r s' hq => ?_)
  cases r with
  | error e => exact hx σ pins H2 s2 e s' I2 hq
  | ok fl =>
    cases fl with
    | ret u => exact I2.after hq
    | next => exact False.elim hq
    | brk => exact False.elim hq
    | cont => exact False.elim hq
abbrev EK (X : Cx) (T : List NTab) (W : WX) (kws : List Keyword) (m : M (List D)) : Prop := PK X kws (TM (bo X T) W (RVs X.K) m)
theorem ek_nil : EK X T W [] mNil := ⟨fun pos pins s σ H Q I h => pk_nil.run pos pins s σ H Q I (h.ret fun _ => .nil)⟩
theorem ek_cons {nm : Option Str} {kpos : Pos} {kws : List Keyword} (ha : EE X T W a ma) (hr : EK X T W kws ms) : EK X T W (⟨nm, a, kpos⟩ :: kws) (mCons ma ms) :=
  ⟨fun pos pins s σ H Q I h => (pk_cons ha hr).run pos pins s σ H Q I (by
    obtain ⟨e, c, S, sl, R0, p⟩ := TM.bind2 (r1 := RV X.K) (r1' := RVs X.K) (fun k h => h.keep k) h
    exact ⟨e, c, S, sl, R0, p.imp fun b1 H1 ⟨e, c, S, sl, R1, p1⟩ => ⟨e, c, S, sl, R1, p1.imp fun b2 H2 ⟨e, c, S, sl, a, a', R2, ra, rb, p2⟩ => p2.ret R2 (.cons ra rb)⟩⟩)⟩
def mFnK (sem : FSem) (ms mk : M (List D)) : M D := mBind ms fun ds => mBind mk fun es => fun v S => sem (ds ++ es) v.κs S
theorem ee_fnK {x : Str} {k n : Nat} {ks : List Str} {sem : FSem} {kws : List Keyword} (F : FnK (bo X T) x k n ks sem) (hr : Room k X.A) (tk : Takes X W) (hg : Gl X x) (hl : Ln ms n) (hl2 : Ln mk ks.length) (ha : EA X T W (e :: es) ms) (hkw : EK X T W kws mk)
    (hall : (backToKw pos (keywordEach kws X.env)).all (·.1.isSome) = true) (hks : (backToKw pos (keywordEach kws X.env)).filterMap (·.1) = ks)
    (hdb : (x == ("__debug__" : Str)) = false) (he : starEach (e :: es) X.env = (false, eval e X.env) :: starEach es X.env)
    (hpl : ((backTo pos (starEach (e :: es) X.env)).any (·.1) || (backToKw pos (keywordEach kws X.env)).any (·.1.isNone)) = false) : EE X T W (.Call (.Name x p) (e :: es) kws pos) (mFnK sem ms mk) := by
  obtain ⟨f, fd, ps, g, h1, h2, h3, h4⟩ := F.ok
  refine pe_imp (pe_callNS h3 hr hg h1 h2 h4 (fun σ => passAt tk σ) ha hkw hall hks hdb he hpl) fun σ H Q ⟨e, c, S, sl, R0, p⟩ => ?_
  refine ⟨e, c, S, sl, R0, ?_⟩
  have p0 : PM (bo X T) W (RV X.K) e sl σ c H (mFnK sem ms mk ⟨sl, e.κs⟩ S) Q := p
  unfold mFnK mBind at p0
  show PM (bo X T) W (RVs X.K) e sl σ c H (ms ⟨sl, e.κs⟩ S) _
  cases hq : ms ⟨sl, e.κs⟩ S with
  | none => rw [hq] at p0; exact p0
  | some r =>
    rw [hq] at p0
    cases r with
    | er x S' => exact p0
    | ok as S1 =>
      intro c1 H1 vs R1 x1 ra
      refine ⟨e, c1, S1, sl, R1, ?_⟩
      show PM (bo X T) W (RVs X.K) e sl σ c1 H1 (mk ⟨sl, e.κs⟩ S1) _
      simp only at p0
      cases hq2 : mk ⟨sl, e.κs⟩ S1 with
      | none => rw [hq2] at p0; exact p0
      | some r =>
        rw [hq2] at p0
        cases r with
        | er x S' => exact fun c2 H2 cls dd R2 x2 rx => p0 c2 H2 cls dd R2 (x1.trans x2) rx
        | ok bs S2 =>
          intro c2 H2 zs R2 x2 rb
          have p1 : PM (bo X T) W (RV X.K) e sl σ c2 H2 (sem (as ++ bs) e.κs S2) Q := by
            have p2 : PM (bo X T) W (RV X.K) e sl σ c H (sem (as ++ bs) e.κs S2) Q := p0
            cases hq3 : sem (as ++ bs) e.κs S2 with
            | none => rw [hq3] at p2; exact p2
            | some r =>
              rw [hq3] at p2
              cases r with
              | ok d S3 => exact fun c3 H3 v R3 x3 rv => p2 c3 H3 v R3 ((x1.trans x2).trans x3) rv
              | er x S3 => exact fun c3 H3 cls dd R3 x3 rx => p2 c3 H3 cls dd R3 ((x1.trans x2).trans x3) rx
          have l1 : vs.length = n := by rw [← ra.length]; exact hl _ _ _ _ hq
          have l2 : zs.length = ks.length := by rw [← rb.length]; exact hl2 _ _ _ _ hq2
          exact ⟨l1, l2, by rw [List.length_append, l1, l2], c2, S2, as ++ bs, e.κs, e.vκ, R2.st, R2.tb, R2.ks.ext R2.ext, ((ra.keep (x2.keeps R1.st)).append rb).ra, pf_of R2 p1⟩
end
end Lk
set_option Elab.async false
set_option linter.all false
set_option maxRecDepth 100000
set_option maxHeartbeats 1000000
set_option autoImplicit false
namespace Lk
open PySem PySem.Spec PyProof.Rows L2 NdefX
/-! ### enumerate of a list -/
def enumL (ds : List D) : List D := List.zipWith pairD ((List.range ds.length).map fun (i : Nat) => D.int (i : Int)) ds
def enumD : D → Option (List D)
  | .lst ds => some (enumL ds)
  | _ => none
theorem enumL_len (ds : List D) : (enumL ds).length = ds.length := by
  unfold enumL
  rw [List.length_zipWith, List.length_map, List.length_range, Nat.min_self]
theorem enumL_at (ds : List D) (i : Nat) {d : D} (h : ds[i]? = some d) : (enumL ds)[i]? = some (pairD (.int (i : Int)) d) := by
  have hi := (List.getElem?_eq_some_iff.mp h).1
  unfold enumL
  rw [List.getElem?_zipWith, List.getElem?_map, List.getElem?_range hi, h]
  rfl
theorem wk_enum {K : PySem.W.Frag} {c : Cg} {H : Hp} {p : Addr} {xs : List V} {ds : List D} (f : c.F p) (h : Rd H p (.lst xs)) (r : RVs K c H ds xs) : Wk K c H (Ite K p) (enumL ds) := by
  have sq : ∀ c' H', Keeps c H c' H' → SqL K H' p xs := fun c' H' k => .inl (k.lst _ _ f h)
  refine ⟨fun i c' H' hi k => ?_, fun c' H' k => ⟨xs, sq c' H' k, by rw [enumL_len, r.length]; exact Nat.le_refl _⟩, fun i c' H' x H'' hi k y => ?_⟩
  · rw [enumL_len] at hi
    obtain ⟨v, e, _⟩ := r.get (List.getElem?_eq_getElem hi)
    exact ⟨xs, v, sq c' H' k, e⟩
  · obtain ⟨T, x0, rfl, hT, rfl, e⟩ := y
    obtain ⟨d, g, w⟩ := r.getV (e xs (sq c' H' k))
    have xe : ExtP c' H' c' (upd H' T (.tup [.int (i : Nat), x0])) := .new hT
    exact ⟨_, c', enumL_at ds i g, xe, .tup upd_same two_le (.cons (.int _) (.cons ((w.keep k).keep xe.keeps) .nil))⟩
section
variable {X : Cx} {T : List NTab} {W : WX} {tg e a b cnd iter : Expr} {es rest : List Expr} {pos p : Pos} {m ma mb me : M D} {mt mt1 : M Bool} {mi mi1 : M (List D)}
def mEnum (ma : M D) : M (List D) := mBind ma fun a => mOpt (enumD a)
theorem ie_enum {elts : List Expr} {kk : Nat} {tpos : Pos} (hg : Gl X "enumerate") (hm : X.mg "enumerate" = none) (ha : EE X T W a ma) (hs : starEach [a] X.env = [(false, eval a X.env)]) : IE X T W (.Tuple elts kk tpos) (.Call (.Name "enumerate" p) [a] [] pos) (mEnum ma) := by
  refine ⟨fun pins s σ H R I h => (pi_enum (tpos := tpos) (elts := elts) (kk := kk) hg hm (pa_cons ha pa_nil hs) hs).run pins s σ H R I ?_⟩
  obtain ⟨e, c, S, sl, R0, p⟩ := TM.bind (r1 := RV X.K) h
  refine ⟨e, c, S, sl, R0, p.imp fun b1 H1 ⟨e, c, S, sl, d, R1, ra, p1⟩ => ?_⟩
  obtain ⟨is, hd, k⟩ := p1.opt R1
  cases d <;> simp only [enumD, reduceCtorEq, Option.some.injEq] at hd
  subst hd
  obtain ⟨q, xs, rfl, f, h1, z, r⟩ := ra.lstAt
  exact ⟨q, xs, rfl, .inl h1, k c H1 _ .refl ⟨wk_enum f h1 r, by rw [enumL_len, r.length]; exact z⟩⟩
/-! ### [.. for .. for ..] -/
def compL2i (t1 : Tg) (vs1 : List Nat) (mt1 : M Bool) (me : M D) (v : Ev) : List D → List D → Sto → Option (R (List D))
  | [], acc, S => some (.ok acc S)
  | d :: ds, acc, S => match bindT t1 d (wipeSl v.sl vs1) with
    | none => none
    | some sl => match mt1 ⟨sl, v.κs⟩ S with
      | some (.ok true S1) => match me ⟨sl, v.κs⟩ S1 with
        | some (.ok x S2) => compL2i t1 vs1 mt1 me v ds (acc ++ [x]) S2
        | _ => none
      | some (.ok false S1) => compL2i t1 vs1 mt1 me v ds acc S1
      | _ => none
def compL2 (t : Tg) (vs : List Nat) (mt : M Bool) (mi1 : M (List D)) (t1 : Tg) (vs1 : List Nat) (mt1 : M Bool) (me : M D) (v : Ev) : List D → List D → Sto → Option (R (List D))
  | [], acc, S => some (.ok acc S)
  | d :: ds, acc, S => match bindT t d (wipeSl v.sl vs) with
    | none => none
    | some sl => match mt ⟨sl, v.κs⟩ S with
      | some (.ok true S1) => match mi1 ⟨sl, v.κs⟩ S1 with
        | some (.ok ds1 S2) => match compL2i t1 vs1 mt1 me ⟨sl, v.κs⟩ ds1 acc S2 with
          | some (.ok acc' S3) => if acc'.length ≤ sizeLine then compL2 t vs mt mi1 t1 vs1 mt1 me v ds acc' S3 else none
          | _ => none
        | _ => none
      | some (.ok false S1) => compL2 t vs mt mi1 t1 vs1 mt1 me v ds acc S1
      | _ => none
def mComp2 (mi : M (List D)) (t : Tg) (vs : List Nat) (mt : M Bool) (mi1 : M (List D)) (t1 : Tg) (vs1 : List Nat) (mt1 : M Bool) (me : M D) : M (List D) := mBind mi fun ds => fun v S => compL2 t vs mt mi1 t1 vs1 mt1 me v ds [] S
theorem comp2i_no {t1 : Tg} {vs1 : List Nat} {v : Ev} {x : Exc} {S' : Sto} : ∀ (l acc : List D) S, compL2i t1 vs1 mt1 me v l acc S ≠ some (.er x S')
  | [], acc, S, q => by cases q
  | d :: l, acc, S, q => by
    unfold compL2i at q
    split at q
    · cases q
    · split at q
      · split at q
        · exact comp2i_no l _ _ q
        · cases q
      · exact comp2i_no l _ _ q
      · cases q
theorem comp2_no {t t1 : Tg} {vs vs1 : List Nat} {v : Ev} {x : Exc} {S' : Sto} : ∀ (l acc : List D) S, compL2 t vs mt mi1 t1 vs1 mt1 me v l acc S ≠ some (.er x S')
  | [], acc, S, q => by cases q
  | d :: l, acc, S, q => by
    unfold compL2 at q
    split at q
    · cases q
    · split at q
      · split at q
        · split at q
          · split at q
            · exact comp2_no l _ _ q
            · cases q
          · cases q
        · cases q
      · exact comp2_no l _ _ q
      · cases q
theorem comp2i_mono {t1 : Tg} {vs1 : List Nat} {v : Ev} {S' : Sto} : ∀ (l acc res : List D) S, compL2i t1 vs1 mt1 me v l acc S = some (.ok res S') → acc.length ≤ res.length
  | [], acc, res, S, q => by cases q; exact Nat.le_refl _
  | d :: l, acc, res, S, q => by
    unfold compL2i at q
    split at q
    · cases q
    · split at q
      · split at q
        · have := comp2i_mono l _ _ _ q
          rw [List.length_append] at this
          have h1 : ∀ y : D, ([y] : List D).length = 1 := fun _ => rfl
          rw [h1] at this
          omega
        · cases q
      · exact comp2i_mono l _ _ _ q
      · cases q
mutual
theorem bindT_own : ∀ (t : Tg) {d : D} {sl sl' : List (Option Sl)} {j : Nat} {o : Ob}, bindT t d sl = some sl' → sl'[j]? = some (some (.own o)) → j ∉ t.ix ∧ sl[j]? = some (some (.own o))
  | .nm i, d, sl, sl', j, o, h, q => by
    cases h
    by_cases hj : i = j
    · subst hj
      by_cases hlt : i < sl.length
      · rw [List.getElem?_set_self hlt] at q; cases q
      · rw [List.getElem?_eq_none (by rw [List.length_set]; omega)] at q; cases q
    · rw [List.getElem?_set_ne hj] at q
      exact ⟨fun z => hj (List.mem_singleton.mp z).symm, q⟩
  | .tup ts, d, sl, sl', j, o, h, q => by
    cases d with
    | tup ds => exact bindTs_own ts (show bindTs ts ds sl = some sl' from h) q
    | _ => cases h
theorem bindTs_own : ∀ (ts : Tgs) {ds : List D} {sl sl' : List (Option Sl)} {j : Nat} {o : Ob}, bindTs ts ds sl = some sl' → sl'[j]? = some (some (.own o)) → j ∉ ts.ix ∧ sl[j]? = some (some (.own o))
  | .nil, [], sl, sl', j, o, h, q => by
    cases h
    exact ⟨List.not_mem_nil, q⟩
  | .nil, _ :: _, _, _, _, _, h, _ => by cases h
  | .cons _ _, [], _, _, _, _, h, _ => by cases h
  | .cons t ts, d :: ds, sl, sl', j, o, h, q => by
    unfold bindTs at h
    split at h
    · rename_i sl1 h1
      obtain ⟨n2, q1⟩ := bindTs_own ts h q
      obtain ⟨n1, q0⟩ := bindT_own t h1 q1
      exact ⟨fun z => (List.mem_append.mp z).elim n1 n2, q0⟩
    · cases h
end
theorem wipeSl_own {sl : List (Option Sl)} {σ : L2.St} {j : Nat} {l : Sl} : ∀ {vs : List Nat}, (wipeSl sl vs)[j]? = some (some l) → sl[j]? = some (some l) ∧ (wipe σ vs)[j]? = σ[j]?
  | [], h => ⟨h, rfl⟩
  | v :: vs, h => by
    have h' : ((wipeSl sl vs).set v none)[j]? = some (some l) := h
    have hj : v ≠ j := by
      intro z
      subst z
      by_cases hlt : v < (wipeSl sl vs).length
      · rw [List.getElem?_set_self hlt] at h'; cases h'
      · rw [List.getElem?_eq_none (by rw [List.length_set]; omega)] at h'; cases h'
    rw [List.getElem?_set_ne hj] at h'
    obtain ⟨a, b⟩ := wipeSl_own (σ := σ) h'
    refine ⟨a, ?_⟩
    show ((wipe σ vs).set v none)[j]? = _
    rw [List.getElem?_set_ne hj]; exact b
theorem Slots.other {B : Bd} {e : En} {c : Cg} {sl : List (Option Sl)} {σ : L2.St} {H : Hp} {p : Addr} {u : HO} (s : Slots B e c H sl σ) (a : Priv c H p) (n : ∀ (j : Nat) (o : Ob), sl[j]? = some (some (.own o)) → σ[j]? ≠ some (some (.ref p))) : Slots B e c (upd H p u) sl σ :=
  ⟨s.len, fun j l q => by
    obtain ⟨v, h1, h2⟩ := s.at_ j l q
    refine ⟨v, h1, ?_⟩
    cases l with
    | val d => exact RV.keep a.keeps h2
    | clo m => exact h2
    | own o =>
      obtain ⟨p2, rfl, nF2, nρ2, n2, ob2⟩ := h2
      have hne : p2 ≠ p := fun z => n j o q (by rw [h1, z])
      exact ⟨p2, rfl, nF2, nρ2, n2, ob2.keep a.keeps (upd_ne hne)⟩, s.apart⟩
/-- the state of the loops: the new list at D, what is known of the rest -/
structure LcI (B : Bd) (c1 : Cg) (H1 : Hp) (D : Addr) (c : Cg) (S : Sto) (H : Hp) (acc : List Lk.D) (accV : List V) : Prop where
  x : Ext c1 H1 c H
  st : StOk B c S H
  tb : TabsN B.T H
  nF : ¬ c.F D
  nρ : D ∉ c.ρ
  at_ : H D = some (.lst accV)
  ra : RVs B.K c H acc accV
theorem LcI.to {B : Bd} {c1 : Cg} {H1 : Hp} {D : Addr} {c c' : Cg} {S S' : Sto} {H H' : Hp} {acc : List Lk.D} {accV : List V} (i : LcI B c1 H1 D c S H acc accV) (x : Ext c H c' H') (st : StOk B c' S' H') (tb : TabsN B.T H') : LcI B c1 H1 D c' S' H' acc accV := by
  obtain ⟨e, a⟩ := x.to_ (c := c) (H := H) (p := D) ⟨i.nF, i.nρ, .inl ⟨_, i.at_⟩⟩
  exact ⟨i.x.trans x, st, tb, a.nF, a.nρ, e.trans i.at_, i.ra.keep (x.keeps i.st)⟩
theorem LcI.app {B : Bd} {c1 : Cg} {H1 : Hp} {D : Addr} {c : Cg} {S : Sto} {H : Hp} {acc : List Lk.D} {accV : List V} {d : Lk.D} {v : V} (i : LcI B c1 H1 D c S H acc accV) (hD : H1 D = none) (r : RV B.K c H d v) : LcI B c1 H1 D c S (upd H D (.lst (accV ++ [v]))) (acc ++ [d]) (accV ++ [v]) := by
  have a : Priv c H D := ⟨i.nF, i.nρ, .inl ⟨_, i.at_⟩⟩
  exact ⟨a.ext i.x hD, a.st i.st, a.tabs i.tb, a.nF, a.nρ, upd_same, (i.ra.keep a.keeps).append (.cons (r.keep a.keeps) .nil)⟩
theorem lc2_of {t t1 : Tg} {vs vs1 : List Nat} {σ : L2.St} {H : Hp} {Q : VK} (h : TMN (bo X T) W (mComp2 mi t vs mt mi1 t1 vs1 mt1 me) σ H Q) (hix : ∀ i ∈ t.ix, i ∈ vs) (hix1 : ∀ i ∈ t1.ix, i ∈ vs1) :
    tLc2 (TM (bo X T) W (rI X.K) mi) (gT X.K t) (TM (bo X T) WF relB mt) (TM (bo X T) WF (rI X.K) mi1) (gT X.K t1) (TM (bo X T) WF relB mt1) (TM (bo X T) WF (RV X.K) me) vs vs1 σ H Q := by
  obtain ⟨e, c, S, sl, R0, p⟩ := h
  refine ⟨e, c, S, sl, R0, ?_⟩
  have p0 : PMN (bo X T) W e sl σ c H (mComp2 mi t vs mt mi1 t1 vs1 mt1 me ⟨sl, e.κs⟩ S) Q := p
  unfold mComp2 mBind at p0
  show PM (bo X T) W (rI X.K) e sl σ c H (mi ⟨sl, e.κs⟩ S) _
  cases hq : mi ⟨sl, e.κs⟩ S with
  | none => rw [hq] at p0; exact p0
  | some r =>
    rw [hq] at p0
    cases r with
    | er x S' => exact p0
    | ok ds S1 =>
      intro c1 H1 J R1 x1 rj D hD
      obtain ⟨wk, zn⟩ := rj
      have p1 : PMN (bo X T) W e sl σ c H (compL2 t vs mt mi1 t1 vs1 mt1 me ⟨sl, e.κs⟩ ds [] S1) Q := p0
      cases hr : compL2 t vs mt mi1 t1 vs1 mt1 me ⟨sl, e.κs⟩ ds [] S1 with
      | none => rw [hr] at p1; exact p1.elim
      | some r =>
        cases r with
        | er x S2 => exact absurd hr (comp2_no _ _ _)
        | ok res Sf =>
          rw [hr] at p1
          refine ⟨fun i m H => i ≤ ds.length ∧ m = ds.length - i ∧ ∃ c' S' acc accV, LcI (bo X T) c1 H1 D c' S' H acc accV ∧ accV.length ≤ sizeLine ∧ compL2 t vs mt mi1 t1 vs1 mt1 me ⟨sl, e.κs⟩ (ds.drop i) acc S' = some (.ok res Sf), ⟨ds.length, Nat.zero_le _, rfl, ?_⟩, ?_⟩
          · have x0 : ExtP c1 H1 c1 (upd H1 D (.lst [])) := .new hD
            refine ⟨c1, S1, [], [], ⟨x0.ext, R1.st.extP x0, tabs_extP x0 R1.tb, fun f => R1.st.ff D f hD, fun f => ?_, upd_same, .nil⟩, Nat.zero_le _, hr⟩
            obtain ⟨ob, q⟩ := R1.st.mem f
            obtain ⟨u, e⟩ := q.some_
            rw [hD] at e; cases e
          rintro i m H2 ⟨hi, rfl, c2, S2, acc, accV, I2, z2, hcl⟩
          by_cases hlt : i < ds.length
          case neg =>
            have ei : i = ds.length := by omega
            subst ei
            rw [List.drop_length] at hcl
            cases hcl
            exact .inl ⟨wk.stop c2 H2 (I2.x.keeps R1.st), p1 c2 H2 D accV (R1.to I2.x I2.st I2.tb) (x1.trans I2.x) (x1.dom D hD) I2.nF I2.nρ I2.at_ z2 I2.ra⟩
          refine .inr ⟨wk.go i c2 H2 hlt (I2.x.keeps R1.st), fun H => ∃ c' S' acc accV, LcI (bo X T) c1 H1 D c' S' H acc accV ∧ accV.length ≤ sizeLine ∧ compL2 t vs mt mi1 t1 vs1 mt1 me ⟨sl, e.κs⟩ (ds.drop (i + 1)) acc S' = some (.ok res Sf),
            fun H' h => ⟨ds.length - (i + 1), by omega, hlt, rfl, h⟩, fun v H3 y => ?_⟩
          obtain ⟨d, c3, hd, x3, rv⟩ := wk.yld i c2 H2 v H3 hlt (I2.x.keeps R1.st) y
          have hdrop : ds.drop i = d :: ds.drop (i + 1) := by
            obtain ⟨h1, h2⟩ := List.getElem?_eq_some_iff.mp hd
            rw [← h2]; exact List.drop_eq_getElem_cons h1
          rw [hdrop] at hcl
          unfold compL2 at hcl
          have I3 := I2.to x3.ext (I2.st.extP x3) (tabs_extP x3 I2.tb)
          have R3 : Rp (bo X T) e c3 S2 sl σ H3 := R1.to I3.x I3.st I3.tb
          have R3w : Rp (bo X T) e c3 S2 (wipeSl sl vs) (wipe σ vs) H3 := ⟨R3.st, R3.tb, R3.ext, R3.sl.wipe_ vs, R3.ks⟩
          cases hb : bindT t d (wipeSl sl vs) with
          | none => rw [hb] at hcl; cases hcl
          | some slb =>
            simp only [hb] at hcl
            refine gT_use t R3w rv hb fun σb Rb wb => ⟨?_, e, c3, S2, slb, Rb, ?_⟩
            · rw [wb vs hix, wipe_wipe]
            have noD : ∀ (j : Nat) (o : Ob), slb[j]? = some (some (.own o)) → σb[j]? ≠ some (some (.ref D)) := fun j o q z => by
              obtain ⟨n1, q1⟩ := bindT_own t hb q
              obtain ⟨q2, q3⟩ := wipeSl_own (σ := σ) q1
              have e1 : σb[j]? = (wipe σ vs)[j]? := by
                have w := congrArg (fun l => l[j]?) (wb t.ix fun _ h => h)
                have w' : (wipe σb t.ix)[j]? = (wipe (wipe σ vs) t.ix)[j]? := w
                rwa [wipe_out n1, wipe_out n1] at w'
              exact R1.sl.fresh hD j o q2 (by rw [← q3, ← e1]; exact z)
            cases hm : mt ⟨slb, e.κs⟩ S2 with
            | none => simp only [hm] at hcl; cases hcl
            | some r =>
              cases r with
              | er x S3 => simp only [hm] at hcl; cases hcl
              | ok k S3 =>
                intro c4 H4 kb R4 x4 ek
                have ek' : k = kb := ek
                subst ek'
                have I4 := I3.to x4 R4.st R4.tb
                cases k with
                | false =>
                  simp only [hm] at hcl
                  rw [if_neg Bool.false_ne_true]
                  exact ⟨c4, S3, acc, accV, I4, z2, hcl⟩
                | true =>
                  simp only [hm] at hcl
                  rw [if_pos rfl]
                  refine ⟨e, c4, S3, slb, R4, ?_⟩
                  cases hx : mi1 ⟨slb, e.κs⟩ S3 with
                  | none => simp only [hx] at hcl; cases hcl
                  | some r =>
                    cases r with
                    | er x S4 => simp only [hx] at hcl; cases hcl
                    | ok ds1 S4 =>
                      simp only [hx] at hcl
                      intro c5 H5 J1 R5 x5 rj1
                      obtain ⟨wk1, zn1⟩ := rj1
                      have I5 := I4.to x5 R5.st R5.tb
                      cases hc2 : compL2i t1 vs1 mt1 me ⟨slb, e.κs⟩ ds1 acc S4 with
                      | none => simp only [hc2] at hcl; cases hcl
                      | some r =>
                        cases r with
                        | er x S5 => simp only [hc2] at hcl; cases hcl
                        | ok acc' S5 =>
                          simp only [hc2] at hcl
                          split at hcl
                          case isFalse => cases hcl
                          rename_i zacc
                          have hmono := comp2i_mono _ _ _ _ hc2
                          refine ⟨fun j k H => j ≤ ds1.length ∧ k = ds1.length - j ∧ ∃ c' S' ac acV, LcI (bo X T) c1 H1 D c' S' H ac acV ∧ Keeps c5 H5 c' H ∧ Rp (bo X T) e c' S' slb σb H ∧ compL2i t1 vs1 mt1 me ⟨slb, e.κs⟩ (ds1.drop j) ac S' = some (.ok acc' S5),
                            ⟨ds1.length, Nat.zero_le _, rfl, c5, S4, acc, accV, I5, .refl, R5, hc2⟩, ?_⟩
                          rintro j k H6 ⟨hj, rfl, c6, S6, ac, acV, I6, k6, R6, hcl6⟩
                          by_cases hlt1 : j < ds1.length
                          case neg =>
                            have ej : j = ds1.length := by omega
                            subst ej
                            rw [List.drop_length] at hcl6
                            cases hcl6
                            exact .inl ⟨wk1.stop c6 H6 k6, c6, _, _, acV, I6, by rw [← I6.ra.length]; exact zacc, hcl⟩
                          refine .inr ⟨wk1.go j c6 H6 hlt1 k6, fun H => ∃ c' S' ac acV, LcI (bo X T) c1 H1 D c' S' H ac acV ∧ Keeps c5 H5 c' H ∧ Rp (bo X T) e c' S' slb σb H ∧ compL2i t1 vs1 mt1 me ⟨slb, e.κs⟩ (ds1.drop (j + 1)) ac S' = some (.ok acc' S5),
                            fun H' h => ⟨ds1.length - (j + 1), by omega, hlt1, rfl, h⟩, fun v1 H7 y1 => ?_⟩
                          obtain ⟨d1, c7, hd1, x7, rv1⟩ := wk1.yld j c6 H6 v1 H7 hlt1 k6 y1
                          have hdrop1 : ds1.drop j = d1 :: ds1.drop (j + 1) := by
                            obtain ⟨h1, h2⟩ := List.getElem?_eq_some_iff.mp hd1
                            rw [← h2]; exact List.drop_eq_getElem_cons h1
                          rw [hdrop1] at hcl6
                          unfold compL2i at hcl6
                          have I7 := I6.to x7.ext (I6.st.extP x7) (tabs_extP x7 I6.tb)
                          have R7 := R6.toP x7
                          have R7w : Rp (bo X T) e c7 S6 (wipeSl slb vs1) (wipe σb vs1) H7 := ⟨R7.st, R7.tb, R7.ext, R7.sl.wipe_ vs1, R7.ks⟩
                          cases hb1 : bindT t1 d1 (wipeSl slb vs1) with
                          | none => rw [hb1] at hcl6; cases hcl6
                          | some slc =>
                            simp only [hb1] at hcl6
                            refine gT_use t1 R7w rv1 hb1 fun σc Rc wc => ⟨?_, e, c7, S6, slc, Rc, ?_⟩
                            · rw [wc vs1 hix1, wipe_wipe]
                            cases hm1 : mt1 ⟨slc, e.κs⟩ S6 with
                            | none => simp only [hm1] at hcl6; cases hcl6
                            | some r =>
                              cases r with
                              | er x S7 => simp only [hm1] at hcl6; cases hcl6
                              | ok k1 S7 =>
                                intro c8 H8 kb1 R8 x8 ek1
                                have ek1' : k1 = kb1 := ek1
                                subst ek1'
                                have I8 := I7.to x8 R8.st R8.tb
                                have R8b : Rp (bo X T) e c8 S7 slb σb H8 := R7.to x8 R8.st R8.tb
                                have k8 := (k6.trans x7.keeps).trans (x8.keeps Rc.st)
                                cases k1 with
                                | false =>
                                  simp only [hm1] at hcl6
                                  rw [if_neg Bool.false_ne_true]
                                  exact ⟨c8, S7, ac, acV, I8, k8, R8b, hcl6⟩
                                | true =>
                                  simp only [hm1] at hcl6
                                  rw [if_pos rfl]
                                  refine ⟨e, c8, S7, slc, R8, ?_⟩
                                  cases hx1 : me ⟨slc, e.κs⟩ S7 with
                                  | none => simp only [hx1] at hcl6; cases hcl6
                                  | some r =>
                                    cases r with
                                    | er x S8 => simp only [hx1] at hcl6; cases hcl6
                                    | ok x S8 =>
                                      simp only [hx1] at hcl6
                                      intro c9 H9 y9 R9 x9 ry
                                      have I9 := I8.to x9 R9.st R9.tb
                                      have I10 := I9.app hD ry
                                      have hln : acV.length < sizeLine := by
                                        have q := comp2i_mono _ _ _ _ hcl6
                                        rw [List.length_append, I9.ra.length] at q
                                        have h1 : ([x] : List Lk.D).length = 1 := rfl
                                        rw [h1] at q
                                        omega
                                      have a9 : Priv c9 H9 D := ⟨I9.nF, I9.nρ, .inl ⟨_, I9.at_⟩⟩
                                      have R9b : Rp (bo X T) e c9 S8 slb σb H9 := R8b.to x9 R9.st R9.tb
                                      refine ⟨acV, I9.at_, hln, c9, S8, ac ++ [x], acV ++ [y9], I10, (k8.trans (x9.keeps R8.st)).trans a9.keeps, ?_, hcl6⟩
                                      exact ⟨I10.st, I10.tb, R0.ext.trans ((x1.trans I10.x)), R9b.sl.other a9 noD, R9b.ks⟩
theorem ee_comp2 {elt tg1 iter1 : Expr} {ifs ifs1 : List Expr} {scope : Scope} {own : List (Str × Nat)} {vs1 : List Nat} {t t1 : Tg} (hc : X.calm = true) (hN : X.N.Nodup) (hi : IE X T W tg iter mi) (ok : BlkOk X.N X.env.scope scope own) (hv : ∀ i ∈ vs1, i ∈ own.map (·.2))
    (hg : ∀ (s : Shared) (H : Hp) (C : Addr) (cl : List (Str × Addr)) (fp : List Addr), PG (X.blk s H scope (compEnvC scope cl C X.env) fp) tg (gT X.K t))
    (ht : ∀ (s : Shared) (H : Hp) (C : Addr) (cl : List (Str × Addr)) (fp : List Addr), PTs (X.blk s H scope (compEnvC scope cl C X.env) fp) ifs (TM (bo X T) WF relB mt))
    (hi1 : ∀ (s : Shared) (H : Hp) (C : Addr) (cl : List (Str × Addr)) (fp : List Addr), IE (X.blk s H scope (compEnvC scope cl C X.env) fp) T WF tg1 iter1 mi1)
    (hg1 : ∀ (s : Shared) (H : Hp) (C : Addr) (cl : List (Str × Addr)) (fp : List Addr), PG (X.blk s H scope (compEnvC scope cl C X.env) fp) tg1 (gT X.K t1))
    (ht1 : ∀ (s : Shared) (H : Hp) (C : Addr) (cl : List (Str × Addr)) (fp : List Addr), PTs (X.blk s H scope (compEnvC scope cl C X.env) fp) ifs1 (TM (bo X T) WF relB mt1))
    (he : ∀ (s : Shared) (H : Hp) (C : Addr) (cl : List (Str × Addr)) (fp : List Addr), EE (X.blk s H scope (compEnvC scope cl C X.env) fp) T WF elt me) (hs : ∀ x, foldedSetIterable iter X.env x = pure x) (hs1 : ∀ env x, foldedSetIterable iter1 env x = pure x)
    (hix : ∀ i ∈ t.ix, i ∈ own.map (·.2)) (hix1 : ∀ i ∈ t1.ix, i ∈ vs1) : EN X T W (.ListComp elt [⟨tg, iter, ifs, 0⟩, ⟨tg1, iter1, ifs1, 0⟩] scope pos) (mComp2 mi t (own.map (·.2)) mt mi1 t1 vs1 mt1 me) :=
  pe_imp (pe_lc2 (te := TM (bo X T) WF (RV X.K) me) hc hN hi ok hv hg ht hi1 hg1 ht1 he hs hs1) fun σ H Q h => lc2_of h hix hix1
theorem ss_setLc2 {elt tg1 iter1 : Expr} {ifs ifs1 : List Expr} {scope : Scope} {own : List (Str × Nat)} {vs1 : List Nat} {t t1 : Tg} {i : Nat} {y : Str} {py spos : Pos} (hc : X.calm = true) (hN : X.N.Nodup) (hy : X.N[i]? = some y) (hyl : X.env.scope.names.lookup y = some .local)
    (hsw : swapsWith (.ListComp elt [⟨tg, iter, ifs, 0⟩, ⟨tg1, iter1, ifs1, 0⟩] scope pos) (some (.Name y py)) spos.line X.env = pure true) (hi : IE X T W tg iter mi) (ok : BlkOk X.N X.env.scope scope own) (hv : ∀ i ∈ vs1, i ∈ own.map (·.2))
    (hg : ∀ (s : Shared) (H : Hp) (C : Addr) (cl : List (Str × Addr)) (fp : List Addr), PG (X.blk s H scope (compEnvC scope cl C X.env) fp) tg (gT X.K t))
    (ht : ∀ (s : Shared) (H : Hp) (C : Addr) (cl : List (Str × Addr)) (fp : List Addr), PTs (X.blk s H scope (compEnvC scope cl C X.env) fp) ifs (TM (bo X T) WF relB mt))
    (hi1 : ∀ (s : Shared) (H : Hp) (C : Addr) (cl : List (Str × Addr)) (fp : List Addr), IE (X.blk s H scope (compEnvC scope cl C X.env) fp) T WF tg1 iter1 mi1)
    (hg1 : ∀ (s : Shared) (H : Hp) (C : Addr) (cl : List (Str × Addr)) (fp : List Addr), PG (X.blk s H scope (compEnvC scope cl C X.env) fp) tg1 (gT X.K t1))
    (ht1 : ∀ (s : Shared) (H : Hp) (C : Addr) (cl : List (Str × Addr)) (fp : List Addr), PTs (X.blk s H scope (compEnvC scope cl C X.env) fp) ifs1 (TM (bo X T) WF relB mt1))
    (he : ∀ (s : Shared) (H : Hp) (C : Addr) (cl : List (Str × Addr)) (fp : List Addr), EE (X.blk s H scope (compEnvC scope cl C X.env) fp) T WF elt me) (hs : ∀ x, foldedSetIterable iter X.env x = pure x) (hs1 : ∀ env x, foldedSetIterable iter1 env x = pure x)
    (hix : ∀ i ∈ t.ix, i ∈ own.map (·.2)) (hix1 : ∀ i ∈ t1.ix, i ∈ vs1) : SS X T W (.Assign [.Name y py] (.ListComp elt [⟨tg, iter, ifs, 0⟩, ⟨tg1, iter1, ifs1, 0⟩] scope pos) spos) (mSet i (mLs (mComp2 mi t (own.map (·.2)) mt mi1 t1 vs1 mt1 me))) :=
  ss_setG (ps_setLc2 (te := TM (bo X T) WF (RV X.K) me) hc hN hy hyl hsw hi ok hv hg ht hi1 hg1 ht1 he hs hs1) fun σ H Q h => lc2_of (ls_of (B := bo X T) h) hix hix1
end
end Lk
set_option Elab.async false
set_option linter.all false
set_option maxRecDepth 100000
set_option maxHeartbeats 1000000
set_option autoImplicit false
namespace Lk
open PySem PySem.Spec PyProof.Rows L2 NdefX
/-! ### for the printed texts -/
def memD (neg : Bool) : D → D → Option Bool := fun a b => (inD a b).map fun k => if neg then !k else k
theorem tk_blk {X : Cx} {s : Shared} {H : Hp} {scope : Scope} {env : Env} {fp : List Addr} : Takes (X.blk s H scope env fp) WF := fun _ _ ⟨_, _, _, _, _, _, _, _, _, _, _, _, _, _, _, _, w⟩ => w.elim
def blkB (N : List Str) (sc scope : Scope) (own : List (Str × Nat)) : Bool :=
  decide (scope.kind = .function) && scope.names.all (fun y => decide (scope.names.lookup y.1 = some y.2)) && own.all (fun p => decide (N[p.2]? = some p.1)) &&
  scope.names.all (fun y => !decide (y.2 = .free) || decide (sc.names.lookup y.1 = some .cell) || decide (sc.names.lookup y.1 = some .free)) &&
  scope.names.all (fun y => !(decide (y.2 = .local) || decide (y.2 = .cell)) || decide (y.1 ∈ own.map (·.1)) || decide (y.1 ∉ N))
theorem blk_by {N : List Str} {sc scope : Scope} {own : List (Str × Nat)} (h : blkB N sc scope own = true) : BlkOk N sc scope own := by
  unfold blkB at h
  simp only [Bool.and_eq_true, Bool.or_eq_true, Bool.not_eq_true', decide_eq_true_eq, List.all_eq_true, decide_eq_false_iff_not, Bool.or_eq_false_iff] at h
  obtain ⟨⟨⟨⟨h1, h2⟩, h3⟩, h4⟩, h5⟩ := h
  refine ⟨h1, h2, h3, fun y hy e => ?_, fun y hy e => ?_⟩
  · rcases h4 y hy with (z | z) | z
    · exact absurd e z
    · exact .inl z
    · exact .inr z
  · rcases h5 y hy with (⟨z1, z2⟩ | z) | z
    · rcases e with e | e
      · exact absurd e z1
      · exact absurd e z2
    · exact .inl z
    · exact .inr z
def fscB (N P : List Str) (sc : Scope) : Bool :=
  decide (sc.kind = .function) && !sc.isCoroutine && !sc.isGenerator && decide N.Nodup && decide (N.take P.length = P) && P.all (fun x => decide (sc.names.lookup x = some .local) || decide (sc.names.lookup x = some .cell)) && sc.names.all (fun y => !decide (y.2 = .free))
theorem fsc_by {N P : List Str} {sc : Scope} (h : fscB N P sc = true) : FnScope N P sc := by
  unfold fscB at h
  simp only [Bool.and_eq_true, Bool.or_eq_true, Bool.not_eq_true', decide_eq_true_eq, List.all_eq_true, decide_eq_false_iff_not] at h
  obtain ⟨⟨⟨⟨⟨⟨h1, h2⟩, h3⟩, h4⟩, h5⟩, h6⟩, h7⟩ := h
  exact ⟨h1, h2, h3, h4, h5, h6, h7⟩
section
variable {X : Cx} {T : List NTab} {W : WX} {tg e a b cnd iter : Expr} {es rest : List Expr} {pos p : Pos} {m ma mb me : M D} {mt mt1 : M Bool} {mi mi1 : M (List D)}
/-- a comprehension that a name alone holds -/
theorem ss_setLcO {elt : Expr} {ifs : List Expr} {scope : Scope} {own : List (Str × Nat)} {t : Tg} {i : Nat} {y : Str} {py : Pos} {mi : M (List D)} {me : M D} {spos : Pos} (hc : X.calm = true) (hN : X.N.Nodup) (hy : X.N[i]? = some y) (hyl : X.env.scope.names.lookup y = some .local)
    (hsw : swapsWith (.ListComp elt [⟨tg, iter, ifs, 0⟩] scope pos) (some (.Name y py)) spos.line X.env = pure true) (hi : IE X T W tg iter mi) (ok : BlkOk X.N X.env.scope scope own)
    (hg : ∀ (s : Shared) (H : Hp) (C : Addr) (cl : List (Str × Addr)) (fp : List Addr), PG (X.blk s H scope (compEnvC scope cl C X.env) fp) tg (gT X.K t))
    (ht : ∀ (s : Shared) (H : Hp) (C : Addr) (cl : List (Str × Addr)) (fp : List Addr), PTs (X.blk s H scope (compEnvC scope cl C X.env) fp) ifs (TM (bo X T) WF relB mt))
    (he : ∀ (s : Shared) (H : Hp) (C : Addr) (cl : List (Str × Addr)) (fp : List Addr), EE (X.blk s H scope (compEnvC scope cl C X.env) fp) T WF elt me) (hs : ∀ x, foldedSetIterable iter X.env x = pure x)
    (hix : ∀ i ∈ t.ix, i ∈ own.map (·.2)) : SS X T W (.Assign [.Name y py] (.ListComp elt [⟨tg, iter, ifs, 0⟩] scope pos) spos) (mSetO i (mObL (mComp mi t (own.map (·.2)) mt me))) :=
  ss_setOG (ps_setLc (te := TM (bo X T) WF (RV X.K) me) hc hN hy hyl hsw hi ok hg ht he hs) fun σ H Q h => lc_of (obL_of (B := bo X T) h) hix
end
/-- a function that is never reached -/
theorem spOf_none {B : Bd} {n : Nat} {vs : List V} {H : Hp} {Q : VK} {E : XK} : ¬ spOf B n (fun _ _ _ => none) vs H Q E := fun ⟨_, _, _, _, _, _, _, _, _, _, p⟩ => p
theorem fnOk_none {B : Bd} {n k : Nat} {f : Addr} {fd : FuncData} {ps : List Str} : FnOk B.P B.w B.K B.mg B.base (L2.CX B.P B.w) k f fd ps (spOf B n (fun _ _ _ => none)) :=
  ⟨fun _ _ _ _ h => (spOf_none h).elim, fun _ _ _ _ _ _ _ _ _ _ _ _ _ h => (spOf_none h).elim⟩
/-- well[k], y = value: x a shared list, y a name -/
def mPutT (i j : Nat) (mi : M D) (md : M D) : MS := mThen md fun d => fun v S => match d with
  | .tup [d1, d2] => mHas i (mThen mi fun k => mSeq (putN i k d1) (mNx fun sl => some (sl.set j (some (.val d2))))) v S
  | _ => none
theorem setD_imp {o i v : V} {H : Hp} {Q Q' : Hp → Prop} (h : rSetD o i v H Q) (f : ∀ H, Q H → Q' H) : rSetD o i v H Q' := by
  obtain ⟨a, H', e, g, q⟩ := h
  exact ⟨a, H', e, g, f _ q⟩
theorem set2_imp {o i v : V} {H : Hp} {Q Q' : Hp → Prop} (h : rSet2 o i v H Q) (f : ∀ H, Q H → Q' H) : rSet2 o i v H Q' := by
  rcases h with ⟨p, xs, k, j, e1, e2, e3, e4, q⟩ | h | ⟨a, e1, e2, h⟩ | ⟨a, e1, e2, h⟩
  · exact .inl ⟨p, xs, k, j, e1, e2, e3, e4, f _ q⟩
  · exact .inr (.inl (setD_imp h f))
  · exact .inr (.inr (.inl ⟨a, e1, e2, setD_imp h f⟩))
  · exact .inr (.inr (.inr ⟨a, e1, e2, setD_imp h f⟩))
theorem PSt.seq2 {B : Bd} {W : WX} {e : En} {c : Cg} {H : Hp} {Z : Ends} {m1 m2 : MS} {v : Ev} {S : Sto} (hk : v.κs = e.κs) (p : PSt B W e c H (mSeq m1 m2 v S) Z) :
    PSt B W e c H (m1 v S) { Z with nx := fun σ' H' => ∃ c' S' sl', Rp B e c' S' sl' σ' H' ∧ Keeps c H c' H' ∧ PSt B W e c' H' (m2 ⟨sl', e.κs⟩ S') Z } := by
  unfold mSeq at p
  cases q : m1 v S with
  | none => rw [q] at p; exact p
  | some r =>
    rw [q] at p
    cases r with
    | nx sl S' =>
      have p' : PSt B W e c H (m2 ⟨sl, v.κs⟩ S') Z := p
      rw [hk] at p'
      exact fun c' H' σ' R k' => ⟨c', S', sl, R, k', p'.mono k'⟩
    | bk sl S => exact p
    | ct sl S => exact p
    | rt d S => exact p
    | er x sl S => exact p
section
variable {X : Cx} {T : List NTab} {W : WX} {a ix : Expr} {pos p1 p2 p3 pt : Pos} {kt : Nat} {md mi : M D}
theorem ss_putT {i j : Nat} {x y : Str} (hc : X.calm = true) (hu : X.A.units + 1 < cLine) (hnd : X.N.Nodup) (hN : X.N[i]? = some x) (hv : Vis X.env.scope x) (hd : (x == ("__debug__" : Str)) = false) (hcd : (x == ("__classdict__" : Str)) = false)
    (hj : X.N[j]? = some y) (hy : Loc X.env.scope y) (hf : X.fn y = true ∨ X.env.scope.names.lookup y = some .local)
    (ha : EE X T W a md) (hi : EE X T W ix mi) (hs : swapsWithSole [.Tuple [.Subscript (.Name x p1) ix p2, .Name y p3] kt pt] a pos.line X.env = pure false) (hw : swappedStores [.Tuple [.Subscript (.Name x p1) ix p2, .Name y p3] kt pt] a X.env = pure none)
    (h1 : (assignEach [.Tuple [.Subscript (.Name x p1) ix p2, .Name y p3] kt pt] X.env).map (·.2) = [assign (.Tuple [.Subscript (.Name x p1) ix p2, .Name y p3] kt pt) X.env])
    (hst : ∀ v, assign (.Subscript (.Name x p1) ix p2) X.env v = (do
      let ov ← holding [v] (eval (.Name x p1) X.env)
      let iv ← holding [v, ov] (eval ix X.env)
      standAt p2
      holding [v, ov, iv] (setItem ov iv v)
      release [v, ov, iv] []))
    (hg : PGs X [.Subscript (.Name x p1) ix p2, .Name y p3] (gCons (gSub (tVar i) (TM (bo X T) W (RV X.K) mi) rSet2) (gCons (gName j) gNil)) → PG X (.Tuple [.Subscript (.Name x p1) ix p2, .Name y p3] kt pt) (gTup X.K 2 (gCons (gSub (tVar i) (TM (bo X T) W (RV X.K) mi) rSet2) (gCons (gName j) gNil))))
    (hg2 : PG X (.Subscript (.Name x p1) ix p2) (gSub (tVar i) (TM (bo X T) W (RV X.K) mi) rSet2) → PGs X [.Subscript (.Name x p1) ix p2, .Name y p3] (gCons (gSub (tVar i) (TM (bo X T) W (RV X.K) mi) rSet2) (gCons (gName j) gNil))) :
    SS X T W (.Assign [.Tuple [.Subscript (.Name x p1) ix p2, .Name y p3] kt pt] a pos) (mPutT i j mi md) := by
  refine ps_imp (ps_asg ha (hg (hg2 (pg_sub (pe_var hN hv hd hcd) hi (set_2 hu) hst))) hs hw h1) fun Z σ H ⟨e, c, S, sl, R0, p⟩ => ?_
  refine ⟨e, c, S, sl, R0, (PSt.thn (r1 := RV X.K) R0 p).imp fun v H1 ⟨c1, S1, d, R1, k1, rv, p1⟩ => ?_⟩
  split at p1
  case h_2 => exact p1.elim
  rename_i d1 d2
  obtain ⟨q, xs, rfl, hq, z, r⟩ := rv.tupAt
  cases r with
  | @cons _ v1 _ _ r1 r =>
    cases r with
    | @cons _ v2 _ _ r2 r =>
      cases r
      refine ⟨q, _, rfl, .of hq, rfl, v1, [v2], rfl, ?_⟩
      have p1' : PSt (bo X T) W e c1 H1 (mHas i (mThen mi fun k => mSeq (putN i k d1) (mNx fun sl => some (sl.set j (some (.val d2))))) ⟨sl, e.κs⟩ S1) Z := p1
      unfold mHas at p1'
      split at p1'
      case h_2 => exact p1'.elim
      rename_i l hl
      obtain ⟨o, ho, _⟩ := R1.sl.at_ i _ hl
      refine ⟨o, ho, e, c1, S1, sl, R1, (PSt.thn (r1 := RV X.K) R1 p1').imp fun kv H2 ⟨c2, S2, k, R2, k2, rk, p2⟩ => ?_⟩
      have p3 := PSt.seq2 rfl p2
      obtain ⟨o', ho', h⟩ := putN_ok R2 rk (r1.keep k2) p3
      rw [ho] at ho'
      cases ho'
      refine set2_imp h fun H3 ⟨c3, S3, sl3, R3, k3, p4⟩ => ⟨v2, [], rfl, rfl, ?_⟩
      exact p4 c3 H3 _ ⟨R3.st, R3.tb, R3.ext, R3.sl.set ((r2.keep k2).keep k3), R3.ks⟩ .refl
end
theorem _root_.L2.Room.u1 {k : Nat} {A : Around} (r : Room k A) : A.units + 1 < cLine := by have := r.un; omega
theorem _root_.L2.Room.u65 {k : Nat} {A : Around} (r : Room k A) : A.units + 65 < cLine := by have := r.un; omega
theorem kbn_of {K : PySem.W.Frag} {x qual : Str} {params : Arguments} {body : List Stmt} {scope : Scope} {f : Addr} {fd : FuncData} {ps ks : List Str} {n : Nat} (F : FunD K x qual params body scope [] [] f fd)
    (h : ∀ (kV doc pm : Value) (an : Option Addr) (cdv ct : Value) (us ws : List Value), us.length = n → ws.length = ks.length → bindArgs (PySem.W.fnOf x qual params body scope .none kV doc pm an cdv ct) ⟨us, ks.zip ws⟩ = pure (ps.zip (us ++ ws))) :
    KBn K fd ps n ks (fun us ws => us ++ ws) (fun vs zs => vs ++ zs) := by
  obtain ⟨oc, od, dV, kV, doc, pm, an, cdv, ct, osl, rfl, lk, hcd, hD, hK⟩ := F.ex
  rcases hD with ⟨_, rfl⟩ | ⟨e, _⟩
  · exact ⟨fun s us ws _ l1 l2 => .of_eq (h kV doc pm an cdv ct us ws l1 l2), fun r1 r2 => r1.append r2⟩
  · exact absurd rfl e
end Lk
set_option Elab.async false
set_option linter.all false
set_option maxRecDepth 100000
set_option maxHeartbeats 1000000
set_option autoImplicit false
namespace Lk
open PySem PySem.Spec PyProof.Rows L2 NdefX
/-! ### enumerate over a zip: the zip's tuples stay in hand -/
abbrev IsZipX (h : Heap) (z TI TO : Addr) (v0 : Value) (f : Bool) : Prop :=
  h.get? z = some { cls := .type "zip", dict := none, data := .fields #[v0, .bool f, .bool false, .ref TI, .ref TO], slots := #[] }
def ZFr (v0 : Value) : Prop := v0 = .none ∨ ∃ T : Addr, v0 = rawInt (T : Nat)
section
variable {prog : Program} {w : World} {A : Around} {E : Value → Shared → Prop} {s : Shared} {z TI TO i1 i2 : Addr} {fp1 fp2 : List Addr} {n1 n2 i : Nat} {P1 P2 : Nat → Value → Prop} {St1 St2 : Nat → Heap → Prop} {a1 a2 v0 : Value} {f : Bool}
theorem may_alive {a : Addr} {Q : Option Obj → Shared → Prop} (h : Q (s.heap.get? a) s) : wpAny (model prog w) A (loadIfAlive a) Q E s := fun _ _ _ => h
theorem zip_free {Q : Bool → Shared → Prop} (hz : IsZipX s.heap z TI TO v0 f) (hv : ZFr v0) (h1 : Q true s) (h2 : ∀ h', IsZipX h' z TI TO v0 true → Heap.SameBut z s.heap h' → Q false { s with heap := h' }) :
    wpAny (model prog w) A (Builtin.SmallTypes.ownedTupleIsFree (.ref z)) Q E s := by
  unfold Builtin.SmallTypes.ownedTupleIsFree
  rcases hv with rfl | ⟨T, rfl⟩
  · exact wpAny_bind (wpAny_field hz rfl (x := .none) rfl (wpAny_pure h1))
  · refine wpAny_bind (wpAny_field hz rfl (x := rawInt (T : Nat)) rfl ?_)
    show wpAny _ _ (loadIfAlive ((T : Int).toNat) >>= _) _ _ _
    rw [Int.toNat_natCast]
    refine wpAny_bind (may_alive ?_)
    cases s.heap.get? T with
    | none =>
      simp only [Option.isNone_none, if_true]
      exact wpAny_pure h1
    | some o =>
      simp only [Option.isNone_some, Bool.false_eq_true, if_false]
      refine wpAny_bind (wpAny_field hz rfl (x := .bool f) rfl ?_)
      cases f with
      | true =>
        rw [if_neg (show ¬ ((Value.bool true != Value.bool true) = true) from Bool.false_ne_true)]
        exact wpAny_pure (h2 s.heap hz (Heap.SameBut.refl _ _))
      | false =>
        rw [if_pos (show (Value.bool false != Value.bool true) = true from rfl)]
        exact wpAny_bind (wpAny_setField_rec hz (by simp) fun h₁ hz₁ hs₁ => wpAny_pure (h2 h₁ hz₁ hs₁))
/-- an item of a zip whose last tuple may be in hand -/
theorem zipX_item {Q : Value → Shared → Prop} (S : ZipSep2 z TI TO i1 i2 fp1 fp2) (D1 : Draws prog w A i1 fp1 n1 P1 St1) (D2 : Draws prog w A i2 fp2 n2 P2 St2)
    (hz : IsZipX s.heap z TI TO v0 f) (hv : ZFr v0) (hTI : IsTupOf2 s.heap TI (.ref i1) (.ref i2)) (hTO : IsTupOf2 s.heap TO a1 a2) (st1 : St1 i s.heap) (st2 : St2 i s.heap) (hlt1 : i < n1) (hlt2 : i < n2)
    (hQ : ∀ x1 x2 h' tk v0' f', P1 i x1 → P2 i x2 → IsZipX h' z TI TO v0' f' → ZFr v0' → (∃ y1 y2, IsTupOf2 h' TO y1 y2) → St1 (i + 1) h' → St2 (i + 1) h' → IsTupOf2 h' s.heap.objs.size x1 x2 → h'.objs.size = s.heap.objs.size + 1 →
      (∀ c o, c ≠ z → c ≠ TO → c ≠ i1 → c ≠ i2 → s.heap.get? c = some o → h'.get? c = some o) → Q (.ref s.heap.objs.size) { s with heap := h', toks := tk }) :
    wpAny (model prog w) A (Builtin.«zip.__next__» ⟨[.ref z], []⟩) (fun fin s' => ∃ v, fin = .done (.ret v) ∧ Q v s') E s := by
  obtain ⟨hp, g, d, tk0, os⟩ := s
  show wpAny _ _ (field (.ref z) 2 >>= _) _ _ _
  refine wpAny_bind (wpAny_field hz rfl (x := .bool false) rfl ?_)
  show wpAny _ _ (field (.ref z) 3 >>= _) _ _ _
  refine wpAny_bind (wpAny_field hz rfl (x := .ref TI) rfl ?_)
  refine wpAny_bind (wpAny_seqItems hTI rfl ?_)
  show wpAny _ _ (Builtin.SmallTypes.ownedTupleIsFree (.ref z) >>= _) _ _ _
  refine wpAny_bind (zip_free hz hv ?_ fun h₁ hz₁ hs₁ => ?_)
  · simp only [if_true]
    refine wpAny_bind (wpAny_rule ?_)
    refine wpAny_bind (wpAny_field hz rfl (x := .ref TO) rfl ?_)
    refine wpAny_bind (wpAny_setField_rec hz (by simp) fun g0 hz0 hs0 => ?_)
    replace hz0 : IsZipX g0 z TI TO .ellipsis f := hz0
    replace hs0 : Heap.SameBut z hp g0 := hs0
    refine wpAny_bind ?_
    simp only [List.zipIdx_cons, List.zipIdx_nil, List.forIn_cons, List.forIn_nil]
    refine wpAny_bind (wpAny_bind (wpAny_onRaise ?_))
    show wpAny _ _ (Builtin.SmallTypes.nextOf (.ref i1) >>= _) _ _ ⟨g0, g, d, tk0, os⟩
    refine wpAny_bind (D1.item i _ _ _ hlt1 (D1.over st1 hs0 S.zf1) fun x1 p1 tk1 hx1 sn1 hp1 => wpAny_pure ?_)
    replace hp1 : Heap.SameBut i1 g0 p1 := hp1
    have hU1 : IsTupOf2 p1 TO a1 a2 := hp1.extBut _ _ S.Ti1 (hs0.extBut _ _ S.TOz hTO)
    refine wpAny_bind (wpAny_seqItems (s := ⟨p1, g, d, tk1, os⟩) hU1 rfl ?_)
    refine wpAny_bind (updateSeq_IsTupOf2 (s := ⟨p1, g, d, tk1, os⟩) hU1 fun g1 hT1 hs1 => ?_)
    replace hT1 : IsTupOf2 g1 TO x1 a2 := hT1
    replace hs1 : Heap.SameBut TO p1 g1 := hs1
    refine wpAny_bind (wpAny_letGo (wpAny_pure ?_))
    refine wpAny_bind (wpAny_bind (wpAny_onRaise ?_))
    show wpAny _ _ (Builtin.SmallTypes.nextOf (.ref i2) >>= _) _ _ ⟨g1, g, d, tk1, os⟩
    refine wpAny_bind (D2.item i _ _ _ hlt2 (D2.over (D2.over (D2.over st2 hs0 S.zf2) hp1 S.sep1_2) hs1 S.Tf2) fun x2 p2 tk2 hx2 sn2 hp2 => wpAny_pure ?_)
    replace hp2 : Heap.SameBut i2 g1 p2 := hp2
    have hU2 : IsTupOf2 p2 TO x1 a2 := hp2.extBut _ _ S.Ti2 hT1
    refine wpAny_bind (wpAny_seqItems (s := ⟨p2, g, d, tk2, os⟩) hU2 rfl ?_)
    refine wpAny_bind (updateSeq_IsTupOf2 (s := ⟨p2, g, d, tk2, os⟩) hU2 fun g2 hT2 hs2 => ?_)
    replace hT2 : IsTupOf2 g2 TO x1 x2 := hT2
    replace hs2 : Heap.SameBut TO p2 g2 := hs2
    refine wpAny_bind (wpAny_letGo (wpAny_pure (wpAny_pure ?_)))
    refine wpAny_bind (wpAny_seqItems (s := ⟨g2, g, d, tk2, os⟩) hT2 rfl ?_)
    refine wpAny_bind (wpAny_newTuple ?_)
    have hsz : g2.objs.size = hp.objs.size := by rw [hs2.1, hp2.1, hs1.1, hp1.1, hs0.1]
    have hzz : IsZipX g2 z TI TO .ellipsis f := (hs2.extBut _ _ S.TOz.symm (hp2.extBut _ _ S.zi2 (hs1.extBut _ _ S.TOz.symm (hp1.extBut _ _ S.zi1 hz0))))
    have hkk : ∀ c o, c ≠ z → c ≠ TO → c ≠ i1 → c ≠ i2 → hp.get? c = some o → g2.get? c = some o := fun c o cz cT c1 c2 e =>
      (hs2.extBut _ _ cT (hp2.extBut _ _ c2 (hs1.extBut _ _ cT (hp1.extBut _ _ c1 (hs0.extBut _ _ cz e)))))
    have hj1 : St1 (i + 1) g2 := (D1.over (D1.over (D1.over sn1 hs1 S.Tf1) hp2 S.sep2_1) hs2 S.Tf1)
    have hj2 : St2 (i + 1) g2 := (D2.over sn2 hs2 S.Tf2)
    have hzlt : z < g2.objs.size := Heap.lt_size hzz
    show wpAny _ _ (Builtin.SmallTypes.ownedTupleHandOut (.ref z) (.ref g2.objs.size) >>= _) _ _ ⟨g2.push { cls := .type "tuple", data := .seq #[x1, x2] }, g, d, tk2, os⟩
    refine wpAny_bind ?_
    unfold Builtin.SmallTypes.ownedTupleHandOut
    have hz₆ : IsZipX (g2.push { cls := .type "tuple", data := .seq #[x1, x2] }) z TI TO .ellipsis f := Heap.get?_push_of_some _ hzz
    refine wpAny_bind (wpAny_setField_rec hz₆ (by simp) fun h₇ hz₇ hs₇ => ?_)
    replace hz₇ : IsZipX h₇ z TI TO (rawInt g2.objs.size) f := hz₇
    refine wpAny_setField_rec hz₇ (by simp) fun h₈ hz₈ hs₈ => ?_
    replace hz₈ : IsZipX h₈ z TI TO (rawInt g2.objs.size) false := hz₈
    replace hs₇ : Heap.SameBut z (g2.push { cls := .type "tuple", data := .seq #[x1, x2] }) h₇ := hs₇
    replace hs₈ : Heap.SameBut z h₇ h₈ := hs₈
    have up : ∀ c o, c ≠ z → g2.get? c = some o → h₈.get? c = some o := fun c o c1 e => hs₈.extBut _ _ c1 (hs₇.extBut _ _ c1 (Heap.get?_push_of_some _ e))
    have hT₈ : IsTupOf2 h₈ g2.objs.size x1 x2 := hs₈.extBut _ _ (Nat.ne_of_gt hzlt) (hs₇.extBut _ _ (Nat.ne_of_gt hzlt) (Heap.get?_push_size _ rfl))
    have hz8 : h₈.objs.size = g2.objs.size + 1 := by rw [hs₈.1, hs₇.1, Heap.size_push]
    rw [hsz] at hz₈ hT₈ hz8
    refine wpAny_pure ⟨_, rfl, ?_⟩
    show Q (.ref g2.objs.size) ⟨h₈, g, d, tk2, os⟩
    rw [hsz]
    exact hQ x1 x2 h₈ tk2 _ _ hx1 hx2 hz₈ (.inr ⟨_, rfl⟩) ⟨_, _, up _ _ S.TOz hT2⟩ (D1.frame _ _ _ hj1 fun b hb o e => up b o (fun q => S.zf1 (q ▸ hb)) e) (D2.frame _ _ _ hj2 fun b hb o e => up b o (fun q => S.zf2 (q ▸ hb)) e) hT₈ hz8 fun c o cz cT c1 c2 e => up c o cz (hkk c o cz cT c1 c2 e)
  · replace hs₁ : Heap.SameBut z hp h₁ := hs₁
    simp only [Bool.false_eq_true, if_false]
    refine wpAny_bind ?_
    rw [← Array.forIn_toList]
    simp only [List.forIn_cons, List.forIn_nil]
    refine wpAny_bind (wpAny_bind (wpAny_holding ?_))
    show wpAny _ _ (Builtin.SmallTypes.nextOf (.ref i1) >>= _) _ _ ⟨h₁, g, d, tk0, os⟩
    refine wpAny_bind (D1.item i _ _ _ hlt1 (D1.over st1 hs₁ S.zf1) fun x1 p1 tk1 hx1 sn1 hp1 => wpAny_pure ?_)
    replace hp1 : Heap.SameBut i1 h₁ p1 := hp1
    refine wpAny_pure ?_
    refine wpAny_bind (wpAny_bind (wpAny_holding ?_))
    show wpAny _ _ (Builtin.SmallTypes.nextOf (.ref i2) >>= _) _ _ ⟨p1, g, d, tk1, os⟩
    refine wpAny_bind (D2.item i _ _ _ hlt2 (D2.over (D2.over st2 hs₁ S.zf2) hp1 S.sep1_2) fun x2 p2 tk2 hx2 sn2 hp2 => wpAny_pure ?_)
    replace hp2 : Heap.SameBut i2 p1 p2 := hp2
    refine wpAny_pure (wpAny_pure ?_)
    show wpAny _ _ (newTuple [x1, x2] >>= _) _ _ ⟨p2, g, d, tk2, os⟩
    refine wpAny_bind (wpAny_newTuple ?_)
    have hsz : p2.objs.size = hp.objs.size := by rw [hp2.1, hp1.1, hs₁.1]
    have hzz : IsZipX p2 z TI TO v0 true := hp2.extBut _ _ S.zi2 (hp1.extBut _ _ S.zi1 hz₁)
    have hkk : ∀ c o, c ≠ z → c ≠ i1 → c ≠ i2 → hp.get? c = some o → p2.get? c = some o := fun c o cz c1 c2 e => hp2.extBut _ _ c2 (hp1.extBut _ _ c1 (hs₁.extBut _ _ cz e))
    refine wpAny_pure ⟨_, rfl, ?_⟩
    have hpt : IsTupOf2 (p2.push { cls := .type "tuple", data := .seq #[x1, x2] }) p2.objs.size x1 x2 := Heap.get?_push_size _ rfl
    have hz4 : (p2.push { cls := .type "tuple", data := .seq #[x1, x2] }).objs.size = p2.objs.size + 1 := Heap.size_push ..
    show Q (.ref p2.objs.size) ⟨p2.push { cls := .type "tuple", data := .seq #[x1, x2] }, g, d, tk2, os⟩
    rw [hsz] at hpt hz4 ⊢
    exact hQ x1 x2 _ tk2 _ _ hx1 hx2 (Heap.get?_push_of_some _ hzz) hv ⟨_, _, Heap.get?_push_of_some _ (hkk _ _ S.TOz S.Ti1 S.Ti2 hTO)⟩ (D1.frame _ _ _ (D1.over sn1 hp2 S.sep2_1) fun b hb o e => Heap.get?_push_of_some _ e) (D2.frame _ _ _ sn2 fun b hb o e => Heap.get?_push_of_some _ e) hpt hz4
      fun c o cz cT c1 c2 e => Heap.get?_push_of_some _ (hkk c o cz c1 c2 e)
/-- its end -/
theorem zipX_end {Q : Fin → Shared → Prop} (S : ZipSep2 z TI TO i1 i2 fp1 fp2) (D1 : Draws prog w A i1 fp1 n1 P1 St1) (D2 : Draws prog w A i2 fp2 n2 P2 St2)
    (hz : IsZipX s.heap z TI TO v0 f) (hv : ZFr v0) (hTI : IsTupOf2 s.heap TI (.ref i1) (.ref i2)) (hTO : IsTupOf2 s.heap TO a1 a2) (st1 : St1 i s.heap) (st2 : St2 i s.heap) (hle1 : i ≤ n1) (hle2 : i ≤ n2) (hend : i = n1 ∨ i = n2)
    (hE : ∀ h' tk e, (∀ c o, c ≠ z → c ≠ TO → c ≠ i1 → c ≠ i2 → s.heap.get? c = some o → h'.get? c = some o) → (∃ o, h'.get? e = some o ∧ o.cls = .type "StopIteration") → E (.ref e) { s with heap := h', toks := tk }) :
    wpAny (model prog w) A (Builtin.«zip.__next__» ⟨[.ref z], []⟩) Q E s := by
  obtain ⟨hp, g, d, tk0, os⟩ := s
  show wpAny _ _ (field (.ref z) 2 >>= _) _ _ _
  refine wpAny_bind (wpAny_field hz rfl (x := .bool false) rfl ?_)
  show wpAny _ _ (field (.ref z) 3 >>= _) _ _ _
  refine wpAny_bind (wpAny_field hz rfl (x := .ref TI) rfl ?_)
  refine wpAny_bind (wpAny_seqItems hTI rfl ?_)
  show wpAny _ _ (Builtin.SmallTypes.ownedTupleIsFree (.ref z) >>= _) _ _ _
  refine wpAny_bind (zip_free hz hv ?_ fun h₁ hz₁ hs₁ => ?_)
  · simp only [if_true]
    refine wpAny_bind (wpAny_rule ?_)
    refine wpAny_bind (wpAny_field hz rfl (x := .ref TO) rfl ?_)
    refine wpAny_bind (wpAny_setField_rec hz (by simp) fun g0 hz0 hs0 => ?_)
    replace hz0 : IsZipX g0 z TI TO .ellipsis f := hz0
    replace hs0 : Heap.SameBut z hp g0 := hs0
    refine wpAny_bind ?_
    simp only [List.zipIdx_cons, List.zipIdx_nil, List.forIn_cons, List.forIn_nil]
    refine wpAny_bind (wpAny_bind (wpAny_onRaise ?_))
    show wpAny _ _ (Builtin.SmallTypes.nextOf (.ref i1) >>= _) _ _ ⟨g0, g, d, tk0, os⟩
    by_cases hlt1 : i < n1
    · refine wpAny_bind (D1.item i _ _ _ hlt1 (D1.over st1 hs0 S.zf1) fun x1 p1 tk1 hx1 sn1 hp1 => wpAny_pure ?_)
      replace hp1 : Heap.SameBut i1 g0 p1 := hp1
      have hU1 : IsTupOf2 p1 TO a1 a2 := hp1.extBut _ _ S.Ti1 (hs0.extBut _ _ S.TOz hTO)
      refine wpAny_bind (wpAny_seqItems (s := ⟨p1, g, d, tk1, os⟩) hU1 rfl ?_)
      refine wpAny_bind (updateSeq_IsTupOf2 (s := ⟨p1, g, d, tk1, os⟩) hU1 fun g1 hT1 hs1 => ?_)
      replace hT1 : IsTupOf2 g1 TO x1 a2 := hT1
      replace hs1 : Heap.SameBut TO p1 g1 := hs1
      refine wpAny_bind (wpAny_letGo (wpAny_pure ?_))
      have hi2 : i = n2 := by omega
      refine wpAny_bind (wpAny_bind (wpAny_onRaise ?_))
      show wpAny _ _ (Builtin.SmallTypes.nextOf (.ref i2) >>= _) _ _ ⟨g1, g, d, tk1, os⟩
      refine wpAny_bind (D2.done ⟨g1, g, d, tk1, os⟩ _ _ (by rw [← hi2]; exact (D2.over (D2.over (D2.over st2 hs0 S.zf2) hp1 S.sep1_2) hs1 S.Tf2)) fun q e hq he => ?_)
      replace hq : Heap.ExtBut i2 g1 q := hq
      obtain ⟨oe, hoe, hce⟩ := he
      replace hoe : q.get? e = some oe := hoe
      have hzq : IsZipX q z TI TO .ellipsis f := hq _ _ S.zi2 (hs1.extBut _ _ S.TOz.symm (hp1.extBut _ _ S.zi1 hz0))
      have hez : e ≠ z := fun x => by subst x; rw [hzq] at hoe; cases hoe; simp at hce
      refine wpAny_setField_rec (s := ⟨q, g, d, tk1, os⟩) hzq (by simp) fun q' _ hq' => ?_
      replace hq' : Heap.SameBut z q q' := hq'
      exact hE q' tk1 e (fun c o cz cT c1 c2 x => hq'.extBut _ _ cz (hq _ _ c2 (hs1.extBut _ _ cT (hp1.extBut _ _ c1 (hs0.extBut _ _ cz x))))) ⟨oe, hq'.extBut _ _ hez hoe, hce⟩
    · have hi1 : i = n1 := by omega
      refine wpAny_bind (D1.done ⟨g0, g, d, tk0, os⟩ _ _ (by rw [← hi1]; exact (D1.over st1 hs0 S.zf1)) fun q e hq he => ?_)
      replace hq : Heap.ExtBut i1 g0 q := hq
      obtain ⟨oe, hoe, hce⟩ := he
      replace hoe : q.get? e = some oe := hoe
      have hzq : IsZipX q z TI TO .ellipsis f := hq _ _ S.zi1 hz0
      have hez : e ≠ z := fun x => by subst x; rw [hzq] at hoe; cases hoe; simp at hce
      refine wpAny_setField_rec (s := ⟨q, g, d, tk0, os⟩) hzq (by simp) fun q' _ hq' => ?_
      replace hq' : Heap.SameBut z q q' := hq'
      exact hE q' tk0 e (fun c o cz cT c1 c2 x => hq'.extBut _ _ cz (hq _ _ c1 (hs0.extBut _ _ cz x))) ⟨oe, hq'.extBut _ _ hez hoe, hce⟩
  · replace hs₁ : Heap.SameBut z hp h₁ := hs₁
    simp only [Bool.false_eq_true, if_false]
    refine wpAny_bind ?_
    rw [← Array.forIn_toList]
    simp only [List.forIn_cons, List.forIn_nil]
    refine wpAny_bind (wpAny_bind (wpAny_holding ?_))
    show wpAny _ _ (Builtin.SmallTypes.nextOf (.ref i1) >>= _) _ _ ⟨h₁, g, d, tk0, os⟩
    by_cases hlt1 : i < n1
    · refine wpAny_bind (D1.item i _ _ _ hlt1 (D1.over st1 hs₁ S.zf1) fun x1 p1 tk1 hx1 sn1 hp1 => wpAny_pure ?_)
      replace hp1 : Heap.SameBut i1 h₁ p1 := hp1
      refine wpAny_pure ?_
      have hi2 : i = n2 := by omega
      refine wpAny_bind (wpAny_bind (wpAny_holding ?_))
      show wpAny _ _ (Builtin.SmallTypes.nextOf (.ref i2) >>= _) _ _ ⟨p1, g, d, tk1, os⟩
      refine wpAny_bind (D2.done ⟨p1, g, d, tk1, os⟩ _ _ (by rw [← hi2]; exact (D2.over (D2.over st2 hs₁ S.zf2) hp1 S.sep1_2)) fun q e hq he => ?_)
      replace hq : Heap.ExtBut i2 p1 q := hq
      exact hE q tk1 e (fun c o cz cT c1 c2 x => hq _ _ c2 (hp1.extBut _ _ c1 (hs₁.extBut _ _ cz x))) he
    · have hi1 : i = n1 := by omega
      refine wpAny_bind (D1.done ⟨h₁, g, d, tk0, os⟩ _ _ (by rw [← hi1]; exact (D1.over st1 hs₁ S.zf1)) fun q e hq he => ?_)
      replace hq : Heap.ExtBut i1 h₁ q := hq
      exact hE q tk0 e (fun c o cz cT c1 c2 x => hq _ _ c1 (hs₁.extBut _ _ cz x)) he
/-- all that enumerate over a zip stands on -/
def EnzSt (St1 St2 : Nat → Heap → Prop) (z TI TO i1 i2 : Addr) (i : Nat) (h : Heap) : Prop :=
  (∃ v0 f, IsZipX h z TI TO v0 f ∧ ZFr v0) ∧ IsTupOf2 h TI (.ref i1) (.ref i2) ∧ (∃ x y, IsTupOf2 h TO x y) ∧ St1 i h ∧ St2 i h
/-- the zip's next, as enumerate asks for it -/
theorem zipX_next {Q : Value → Shared → Prop} (S : ZipSep2 z TI TO i1 i2 fp1 fp2) (D1 : Draws prog w A.in1 i1 fp1 n1 P1 St1) (D2 : Draws prog w A.in1 i2 fp2 n2 P2 St2) (st : EnzSt St1 St2 z TI TO i1 i2 i s.heap) (hlt1 : i < n1) (hlt2 : i < n2)
    (hQ : ∀ x1 x2 h' tk, P1 i x1 → P2 i x2 → EnzSt St1 St2 z TI TO i1 i2 (i + 1) h' → IsTupOf2 h' s.heap.objs.size x1 x2 → h'.objs.size = s.heap.objs.size + 1 →
      (∀ c o, c ≠ z → c ≠ TO → c ≠ i1 → c ≠ i2 → s.heap.get? c = some o → h'.get? c = some o) → Q (.ref s.heap.objs.size) { s with heap := h', toks := tk }) :
    wpAny (model prog w) A (Builtin.SmallTypes.nextOf (.ref z)) Q E s := by
  obtain ⟨⟨v0, f, hz, hv⟩, hTI, ⟨a1, a2, hTO⟩, st1, st2⟩ := st
  have hTz : s.TypeIs (.ref z) "zip" := ⟨_, hz, rfl⟩
  unfold Builtin.SmallTypes.nextOf
  refine wpAny_bind (wpAny_callSpecial?_slot (name := Str.ofString "__next__") hTz F.slot_zip_next (wpAny_call_entry F.slot_zip_next hTz F.entry_zip_next
    (zipX_item S D1 D2 hz hv hTI hTO st1 st2 hlt1 hlt2 fun x1 x2 h₁ tk v0' f' hx1 hx2 hz₁ hv₁ hTO₁ sn1 sn2 hT₁ hsz₁ hk₁ => wpAny_pure (hQ x1 x2 h₁ tk hx1 hx2 ⟨⟨_, _, hz₁, hv₁⟩, hk₁ _ _ S.TIz S.TITO S.TIi1 S.TIi2 hTI, hTO₁, sn1, sn2⟩ hT₁ hsz₁ hk₁)) (F.args_zip_next_1 _)))
theorem zipX_stop {Q : Value → Shared → Prop} (S : ZipSep2 z TI TO i1 i2 fp1 fp2) (D1 : Draws prog w A.in1 i1 fp1 n1 P1 St1) (D2 : Draws prog w A.in1 i2 fp2 n2 P2 St2) (st : EnzSt St1 St2 z TI TO i1 i2 i s.heap) (hle1 : i ≤ n1) (hle2 : i ≤ n2) (hend : i = n1 ∨ i = n2)
    (hE : ∀ h' tk e, (∀ c o, c ≠ z → c ≠ TO → c ≠ i1 → c ≠ i2 → s.heap.get? c = some o → h'.get? c = some o) → (∃ o, h'.get? e = some o ∧ o.cls = .type "StopIteration") → E (.ref e) { s with heap := h', toks := tk }) :
    wpAny (model prog w) A (Builtin.SmallTypes.nextOf (.ref z)) Q E s := by
  obtain ⟨⟨v0, f, hz, hv⟩, hTI, ⟨a1, a2, hTO⟩, st1, st2⟩ := st
  have hTz : s.TypeIs (.ref z) "zip" := ⟨_, hz, rfl⟩
  unfold Builtin.SmallTypes.nextOf
  exact wpAny_bind (wpAny_callSpecial?_slot (name := Str.ofString "__next__") hTz F.slot_zip_next (wpAny_call_entry F.slot_zip_next hTz F.entry_zip_next
    (zipX_end S D1 D2 hz hv hTI hTO st1 st2 hle1 hle2 hend hE) (F.args_zip_next_1 _)))
theorem enz_next {e : Addr} {old : Value} {c : Int} {Q : Value → Shared → Prop} (S : ZipSep2 z TI TO i1 i2 fp1 fp2) (D1 : Draws prog w A.in1 i1 fp1 n1 P1 St1) (D2 : Draws prog w A.in1 i2 fp2 n2 P2 St2)
    (he : IsEnum s.heap e z c old) (st : EnzSt St1 St2 z TI TO i1 i2 i s.heap) (hlt1 : i < n1) (hlt2 : i < n2) (ez : e ≠ z) (eTI : e ≠ TI) (eTO : e ≠ TO) (e1 : e ≠ i1) (e2 : e ≠ i2) (ef1 : e ∉ fp1) (ef2 : e ∉ fp2)
    (hQ : ∀ x1 x2 h' tk, P1 i x1 → P2 i x2 → IsEnumOut h' e z (c + 1) (.ref s.heap.objs.size) (s.heap.objs.size + 1) → EnzSt St1 St2 z TI TO i1 i2 (i + 1) h' → IsTupOf2 h' s.heap.objs.size x1 x2 →
      h'.get? (s.heap.objs.size + 1) = some { cls := .type "tuple", data := .seq #[.int c tk, .ref s.heap.objs.size] } →
      (∀ b o, b ≠ e → b ≠ z → b ≠ TO → b ≠ i1 → b ≠ i2 → s.heap.get? b = some o → h'.get? b = some o) → Q (.ref (s.heap.objs.size + 1)) { s with heap := h', toks := tk + 1 }) :
    wpAny (model prog w) A (Builtin.«enumerate.__next__» ⟨[.ref e], []⟩) (fun fin s' => ∃ v, fin = .done (.ret v) ∧ Q v s') E s := by
  have stK : ∀ {i : Nat} {h h' : Heap}, EnzSt St1 St2 z TI TO i1 i2 i h → (∀ b o, b ≠ e → h.get? b = some o → h'.get? b = some o) → EnzSt St1 St2 z TI TO i1 i2 i h' := fun ⟨⟨v0, f, hz, hv⟩, hTI, ⟨x, y, hTO⟩, s1, s2⟩ k =>
    ⟨⟨v0, f, k _ _ ez.symm hz, hv⟩, k _ _ eTI.symm hTI, ⟨x, y, k _ _ eTO.symm hTO⟩, D1.frame _ _ _ s1 fun b hb o q => k b o (fun z => ef1 (z ▸ hb)) q, D2.frame _ _ _ s2 fun b hb o q => k b o (fun z => ef2 (z ▸ hb)) q⟩
  obtain ⟨hp, g, d, tk₀, os⟩ := s
  show wpAny _ _ (field (.ref e) 2 >>= _) _ _ _
  refine wpAny_bind (wpAny_field he rfl (x := .ref z) rfl ?_)
  refine wpAny_bind (zipX_next S D1 D2 st hlt1 hlt2 fun x1 x2 h₁ tk hx1 hx2 st₁ hT₁ hsz₁ hk₁ => ?_)
  replace hT₁ : IsTupOf2 h₁ hp.objs.size x1 x2 := hT₁
  replace hsz₁ : h₁.objs.size = hp.objs.size + 1 := hsz₁
  replace hk₁ : ∀ c o, c ≠ z → c ≠ TO → c ≠ i1 → c ≠ i2 → hp.get? c = some o → h₁.get? c = some o := hk₁
  have he₁ : IsEnum h₁ e z c old := hk₁ _ _ ez eTO e1 e2 he
  have hel : e < hp.objs.size := Heap.lt_size he
  have hTe : hp.objs.size ≠ e := Nat.ne_of_gt hel
  show wpAny _ _ (field (.ref e) 3 >>= _) _ _ ⟨h₁, g, d, tk, os⟩
  refine wpAny_bind (wpAny_field he₁ rfl (x := rawInt c) rfl ?_)
  show wpAny _ _ (field (.ref e) 4 >>= _) _ _ ⟨h₁, g, d, tk, os⟩
  refine wpAny_bind (wpAny_field he₁ rfl (x := .none) rfl ?_)
  show wpAny _ _ (mkInt c >>= _) _ _ ⟨h₁, g, d, tk, os⟩
  refine wpAny_bind (wpAny_mkInt ?_)
  show wpAny _ _ (setField (.ref e) 3 (rawInt (c + 1)) >>= _) _ _ ⟨h₁, g, d, tk + 1, os⟩
  refine wpAny_bind (wpAny_setField_rec he₁ (by simp) fun h₂ he₂ hs₂ => ?_)
  replace hs₂ : Heap.SameBut e h₁ h₂ := hs₂
  replace he₂ : IsEnum h₂ e z (c + 1) old := he₂
  show wpAny _ _ (setField (.ref e) 4 .none >>= _) _ _ ⟨h₂, g, d, tk + 1, os⟩
  refine wpAny_bind (wpAny_setField_rec he₂ (by simp) fun h₃ he₃ hs₃ => ?_)
  replace hs₃ : Heap.SameBut e h₂ h₃ := hs₃
  replace he₃ : IsEnum h₃ e z (c + 1) old := he₃
  show wpAny _ _ (newTuple [.int c tk, .ref hp.objs.size] >>= _) _ _ ⟨h₃, g, d, tk + 1, os⟩
  refine wpAny_bind (wpAny_newTuple ?_)
  have he₄ : IsEnum (h₃.push { cls := .type "tuple", data := .seq #[.int c tk, .ref hp.objs.size] }) e z (c + 1) old := Heap.get?_push_of_some _ he₃
  generalize hh₄ : h₃.push { cls := .type "tuple", data := .seq #[.int c tk, .ref hp.objs.size] } = h₄ at he₄
  have hsz : h₃.objs.size = hp.objs.size + 1 := by rw [hs₃.1, hs₂.1, hsz₁]
  have ht₄ : h₄.get? (hp.objs.size + 1) = some { cls := .type "tuple", data := .seq #[.int c tk, .ref hp.objs.size] } := by rw [← hh₄, ← hsz]; exact Heap.get?_push_size _ rfl
  have k₁₄ : ∀ b o, b ≠ e → h₁.get? b = some o → h₄.get? b = some o := fun b o hbe hb => by
    rw [← hh₄]; exact Heap.get?_push_of_some _ (hs₃.extBut b o hbe (hs₂.extBut b o hbe hb))
  show wpAny _ _ (Builtin.SmallTypes.ownedTupleIsFree (.ref e) >>= _) _ _ ⟨h₄, g, d, tk + 1, os⟩
  rw [hsz]
  clear hh₄ he₃ hs₃ he₂ hs₂ he₁ hsz h₃ h₂
  refine wpAny_bind ?_
  unfold Builtin.SmallTypes.ownedTupleIsFree
  refine wpAny_bind (wpAny_field he₄ rfl (x := .none) rfl (wpAny_pure ?_))
  simp only [if_true]
  refine wpAny_bind (wpAny_rule ?_)
  refine wpAny_bind (wpAny_field he₄ rfl (x := old) rfl ?_)
  refine wpAny_bind (wpAny_setField_rec he₄ (by simp) fun h₅ he₅ hs₅ => ?_)
  replace hs₅ : Heap.SameBut e h₄ h₅ := hs₅
  replace he₅ : IsEnum h₅ e z (c + 1) (.ref hp.objs.size) := he₅
  show wpAny _ _ (Builtin.SmallTypes.ownedTupleHandOut (.ref e) (.ref (hp.objs.size + 1)) >>= _) _ _ ⟨h₅, g, d, tk + 1, os⟩
  refine wpAny_bind ?_
  unfold Builtin.SmallTypes.ownedTupleHandOut
  refine wpAny_bind (wpAny_setField_rec he₅ (by simp) fun h₆ he₆ hs₆ => ?_)
  replace hs₆ : Heap.SameBut e h₅ h₆ := hs₆
  replace he₆ : IsEnumOut h₆ e z (c + 1) (.ref hp.objs.size) (hp.objs.size + 1) := he₆
  refine wpAny_setField_rec he₆ (by simp) fun h₇ he₇ hs₇ => ?_
  replace hs₇ : Heap.SameBut e h₆ h₇ := hs₇
  replace he₇ : IsEnumOut h₇ e z (c + 1) (.ref hp.objs.size) (hp.objs.size + 1) := he₇
  have k₁₇ : ∀ b o, b ≠ e → h₁.get? b = some o → h₇.get? b = some o := fun b o hbe hb => hs₇.extBut b o hbe (hs₆.extBut b o hbe (hs₅.extBut b o hbe (k₁₄ b o hbe hb)))
  refine wpAny_bind (wpAny_letGo (wpAny_pure ⟨_, rfl, hQ x1 x2 h₇ tk hx1 hx2 he₇ (stK st₁ k₁₇) (k₁₇ _ _ hTe hT₁) ?_ fun b o hbe hbz hbT hb1 hb2 hb => k₁₇ b o hbe (hk₁ b o hbz hbT hb1 hb2 hb)⟩))
  have n1 : hp.objs.size + 1 ≠ e := Nat.ne_of_gt (Nat.lt_succ_of_lt hel)
  exact hs₇.extBut _ _ n1 (hs₆.extBut _ _ n1 (hs₅.extBut _ _ n1 ht₄))
end
theorem Inv.turnedNew2 {X : Cx} {pins : List (Addr × Obj)} {σ : L2.St} {H : Hp} {s : Shared} {h' : Heap} {t' : Nat} {ch : List Addr} {T U : Addr} {o1 o2 : HO} (I : Inv X pins σ H s) (k : ∀ b o, b ∉ ch → s.heap.get? b = some o → h'.get? b = some o) (hf : ∀ b ∈ ch, FpOk X pins H b)
    (hT : s.heap.objs.size ≤ T) (hU : s.heap.objs.size ≤ U) (new1 : ObjOk X.prog X.w (upd (upd H T o1) U o2) h' T o1) (new2 : ObjOk X.prog X.w (upd (upd H T o1) U o2) h' U o2) : Inv X pins σ (upd (upd H T o1) U o2) { s with heap := h', toks := t' } := by
  have n1 : H T = none := I.hok.fresh hT
  have n2 : H U = none := I.hok.fresh hU
  have old : ∀ b u, H b = some u → upd (upd H T o1) U o2 b = some u := fun b u e => by rw [upd_ne (ne_of_none e n2), upd_ne (ne_of_none e n1)]; exact e
  have nit : ∀ b u, H b = some u → b ∉ ch := fun b u e z => by
    have q := (hf b z).1
    rw [q] at e; cases e
  refine I.step (g' := s.gens) (d' := s.drawn) (ch := ch) (fun b hb => ⟨(hf b hb).2.2.2.1, (hf b hb).2.1, (hf b hb).2.2.2.2.1, (hf b hb).2.2.2.2.2⟩) (fun b o _ _ hc e _ => k b o hc e) (fun b o _ _ hc e _ => ⟨o.slots, k b o hc e⟩)
    (fun b o _ e n => ?_) (fun b o hc e => ⟨o, k b o hc e⟩) (fun b xs e => old b _ e) (fun b o u e => old b _ e) (fun b ps e => ⟨#[], by rw [old b _ e]; simp⟩) (fun m hm => ?_) (fun b u e => ?_) I.bare
  · have lt := Heap.lt_size e
    rw [upd_ne (Nat.ne_of_lt (Nat.lt_of_lt_of_le lt hU)), upd_ne (Nat.ne_of_lt (Nat.lt_of_lt_of_le lt hT))]; exact n
  · obtain ⟨o, es, ep, ho, r⟩ := hm
    exact ⟨o, es, ep, k _ o (fun z => (hf _ z).2.1 rfl) ho, r⟩
  · by_cases hb : b = U
    · subst hb
      rw [upd_same] at e
      cases e
      exact new2
    · by_cases hb2 : b = T
      · subst hb2
        rw [upd_ne hb, upd_same] at e
        cases e
        exact new1
      · rw [upd_ne hb, upd_ne hb2] at e
        refine (I.hok b u e).stay (fun c v hc q => k c v ?_ q) (fun c q => old c _ q) fun c xs q => old c _ q
        rcases hc with z | z
        · rw [z]; exact nit b u e
        · exact nit c _ z
/-- what enumerate over a zip gives -/
def ItZ (K : PySem.W.Frag) (k1 k2 : Bool) (a b : Addr) (xs ys : List V) : It :=
  ⟨fun i H => SqK K H k1 a xs ∧ SqK K H k2 b ys ∧ i < min xs.length ys.length,
    fun i H v H' => ∃ T U x y, v = .ref U ∧ H T = none ∧ upd H T (.tup [x, y]) U = none ∧ H' = upd (upd H T (.tup [x, y])) U (.tup [.int (i : Nat), .ref T]) ∧ xs[i]? = some x ∧ ys[i]? = some y,
    fun i H => SqK K H k1 a xs ∧ SqK K H k2 b ys ∧ i = min xs.length ys.length⟩
def EnSt (k1 k2 : Bool) (a b e z TI TO i1 i2 : Addr) (i : Nat) (h : Heap) : Prop :=
  (∃ old, IsEnum h e z ((i : Nat) : Int) old) ∧ (∃ v0 f, IsZipX h z TI TO v0 f ∧ ZFr v0) ∧ IsTupOf2 h TI (.ref i1) (.ref i2) ∧ (∃ x y, IsTupOf2 h TO x y) ∧ ItAt k1 h i1 a i ∧ ItAt k2 h i2 b i
theorem turn_enz {P : Program} {w : World} {K : PySem.W.Frag} {elts : List Expr} {kk : Nat} {tpos : Pos} {k1 k2 : Bool} {a b e z TI TO i1 i2 : Addr} {xs ys : List V} (S : ZipSep2 z TI TO i1 i2 [i1, a] [i2, b]) (ha : a ≠ i1) (hb : b ≠ i2) (ez : e ≠ z) (eTI : e ≠ TI) (eTO : e ≠ TO) (e1 : e ≠ i1) (e2 : e ≠ i2) (ea : e ≠ a) (eb : e ≠ b) :
    Turn P w K (.Tuple elts kk tpos) (ItZ K k1 k2 a b xs ys) [e, z, TI, TO, i1, i2] e (EnSt k1 k2 a b e z TI TO i1 i2) where
  mem := by simp
  obj := fun i h st c hc => by
    obtain ⟨⟨old, he⟩, ⟨v0, f, hz, hv⟩, hTI, ⟨x, y, hTO⟩, h1, h2⟩ := st
    have e' : c = e ∨ c = z ∨ c = TI ∨ c = TO ∨ c = i1 ∨ c = i2 := by simpa using hc
    rcases e' with q | q | q | q | q | q
    · exact q ▸ ⟨_, he, fun v q => nomatch q⟩
    · exact q ▸ ⟨_, hz, fun v q => nomatch q⟩
    · exact q ▸ ⟨_, hTI, fun v q => nomatch q⟩
    · exact q ▸ ⟨_, hTO, fun v q => nomatch q⟩
    · exact q ▸ h1.obj
    · exact q ▸ h2.obj
  keep := fun i h h' st k => by
    obtain ⟨⟨old, he⟩, ⟨v0, f, hz, hv⟩, hTI, ⟨x, y, hTO⟩, h1, h2⟩ := st
    exact ⟨⟨old, k e (by simp) _ he⟩, ⟨v0, f, k z (by simp) _ hz, hv⟩, k TI (by simp) _ hTI, ⟨x, y, k TO (by simp) _ hTO⟩, h1.at_ fun o q => k i1 (by simp) o q, h2.at_ fun o q => k i2 (by simp) o q⟩
  item := by
    intro X hP hw hK hc i pins s σ H E I hf st hg
    subst hP hw hK
    obtain ⟨⟨old, he⟩, ⟨v0, f, hz, hv⟩, hTI, ⟨x0, y0, hTO⟩, h1, h2⟩ := st
    obtain ⟨hqx, hqy, hi⟩ := hg
    obtain ⟨its, rv, p, _⟩ := ct_k I hqx
    obtain ⟨its2, rv2, p2, _⟩ := ct_k I hqy
    have l1 := rv.length
    have l2 := rv2.length
    have hi1 : i < its.toArray.size := by rw [List.size_toArray]; omega
    have hi2 : i < its2.toArray.size := by rw [List.size_toArray]; omega
    have hh : X.A.in1.in1.handled = none := I.ok.hd hc
    have hel : e < s.heap.objs.size := Heap.lt_size he
    have hTy : s.TypeIs (.ref e) "enumerate" := ⟨_, he, rfl⟩
    unfold pyNext
    refine wpAny_bind (wpAny_attempt (wpAny_callSpecial?_slot (name := Str.ofString "__next__") hTy F.slot_enumerate_next
      (wpAny_call_entry F.slot_enumerate_next hTy F.entry_enumerate_next
        (enz_next S (draws_k hh k1 i1 a ha its.toArray) (draws_k hh k2 i2 b hb its2.toArray) he ⟨⟨v0, f, hz, hv⟩, hTI, ⟨x0, y0, hTO⟩, ⟨h1, p⟩, ⟨h2, p2⟩⟩ hi1 hi2 ez eTI eTO e1 e2 (by simp [e1, ea]) (by simp [e2, eb])
          fun u u2 h' tk g1 g2 ho st' hT hU hk => wpAny_pure ?_) (F.args_enumerate_next_1 _))))
    refine ⟨_, rfl, wpAny_letOwnedTupleGo_enum (s := { s with heap := h', toks := tk + 1 }) ho fun h'' he' sb => ?_⟩
    obtain ⟨⟨v0', f', hz', hv'⟩, hTI', ⟨x1, y1, hTO'⟩, ⟨s1, _⟩, ⟨s2, _⟩⟩ := st'
    have ne1 : s.heap.objs.size ≠ e := Nat.ne_of_gt hel
    have ne2 : s.heap.objs.size + 1 ≠ e := Nat.ne_of_gt (Nat.lt_succ_of_lt hel)
    have hT2 : h''.get? s.heap.objs.size = some { cls := .type "tuple", data := .seq #[u, u2] } := (sb.2 _ ne1).trans hT
    have hU2 : h''.get? (s.heap.objs.size + 1) = some { cls := .type "tuple", data := .seq #[.int i tk, .ref s.heap.objs.size] } := (sb.2 _ ne2).trans hU
    obtain ⟨x, gx⟩ : ∃ x, xs[i]? = some x := ⟨_, List.getElem?_eq_getElem (show i < xs.length by omega)⟩
    obtain ⟨y, gy⟩ : ∃ y, ys[i]? = some y := ⟨_, List.getElem?_eq_getElem (show i < ys.length by omega)⟩
    obtain ⟨v1, q1, w1⟩ := rv.get gx
    obtain ⟨v2, q2, w2⟩ := rv2.get gy
    have r1 : v1 = u := Option.some.inj (q1.symm.trans (by simpa using g1))
    have r2 : v2 = u2 := Option.some.inj (q2.symm.trans (by simpa using g2))
    subst r1 r2
    have nTU : upd H s.heap.objs.size (.tup [x, y]) (s.heap.objs.size + 1) = none := by
      rw [upd_ne (Nat.succ_ne_self _)]; exact I.hok.fresh (Nat.le_succ _)
    have new1 : ObjOk X.prog X.w (upd (upd H s.heap.objs.size (.tup [x, y])) (s.heap.objs.size + 1) (.tup [.int (i : Nat), .ref s.heap.objs.size])) h'' s.heap.objs.size (.tup [x, y]) :=
      ⟨by show 2 ≤ sizeLine; decide, [v1, v2], .cons w1 (.cons w2 .nil), ⟨_, hT2, rfl, _, rfl⟩⟩
    have new2 : ObjOk X.prog X.w (upd (upd H s.heap.objs.size (.tup [x, y])) (s.heap.objs.size + 1) (.tup [.int (i : Nat), .ref s.heap.objs.size])) h'' (s.heap.objs.size + 1) (.tup [.int (i : Nat), .ref s.heap.objs.size]) :=
      ⟨by show 2 ≤ sizeLine; decide, [.int i tk, .ref s.heap.objs.size], .cons (show RelV (V.int (i : Nat)) (.int i tk) from ⟨tk, rfl⟩) (.cons (show RelV (V.ref s.heap.objs.size) (.ref s.heap.objs.size) from rfl) .nil), ⟨_, hU2, rfl, _, rfl⟩⟩
    have nin : ∀ {c : Addr}, c ∉ [e, z, TI, TO, i1, i2] → c ≠ e ∧ c ≠ z ∧ c ≠ TO ∧ c ≠ i1 ∧ c ≠ i2 := fun hcn => by
      simp only [List.mem_cons, not_or] at hcn
      exact ⟨hcn.1, hcn.2.1, hcn.2.2.2.1, hcn.2.2.2.2.1, hcn.2.2.2.2.2.1⟩
    have I1 : Inv X pins σ (upd (upd H s.heap.objs.size (.tup [x, y])) (s.heap.objs.size + 1) (.tup [.int (i : Nat), .ref s.heap.objs.size])) { s with heap := h'', toks := tk + 1 } :=
      Inv.turnedNew2 I (t' := tk + 1) (ch := [e, z, TI, TO, i1, i2]) (fun c o hcn q => (sb.2 c (nin hcn).1).trans (hk c o (nin hcn).1 (nin hcn).2.1 (nin hcn).2.2.1 (nin hcn).2.2.2.1 (nin hcn).2.2.2.2 q)) hf (Nat.le_refl _) (Nat.le_succ _) new1 new2
    refine ⟨.ref (s.heap.objs.size + 1), _, I1, rfl, ⟨_, _, x, y, rfl, I.hok.fresh (Nat.le_refl _), nTU, rfl, gx, gy⟩, ⟨⟨.ref s.heap.objs.size, ?_⟩, ⟨v0', f', (sb.2 z ez.symm).trans hz', hv'⟩, (sb.2 TI eTI.symm).trans hTI', ⟨x1, y1, (sb.2 TO eTO.symm).trans hTO'⟩, s1.at_ fun o q => (sb.2 i1 e1.symm).trans q, s2.at_ fun o q => (sb.2 i2 e2.symm).trans q⟩, fun c hcm => ?_⟩
    · have ei : ((i + 1 : Nat) : Int) = (i : Int) + 1 := by omega
      rw [ei]; exact he'
    · have lt : c < s.heap.objs.size := by
        have e' : c = e ∨ c = z ∨ c = TI ∨ c = TO ∨ c = i1 ∨ c = i2 := by simpa using hcm
        rcases e' with q | q | q | q | q | q
        · exact q ▸ hel
        · exact q ▸ Heap.lt_size hz
        · exact q ▸ Heap.lt_size hTI
        · exact q ▸ Heap.lt_size hTO
        · obtain ⟨_, e, _⟩ := h1.obj; exact q ▸ Heap.lt_size e
        · obtain ⟨_, e, _⟩ := h2.obj; exact q ▸ Heap.lt_size e
      rw [upd_ne (Nat.ne_of_lt (Nat.lt_succ_of_lt lt)), upd_ne (Nat.ne_of_lt lt)]
      exact (hf c hcm).1
  done := by
    intro X hP hw hK hc i pins s σ H E I hf st hg
    subst hP hw hK
    obtain ⟨⟨old, he⟩, ⟨v0, f, hz, hv⟩, hTI, ⟨x0, y0, hTO⟩, h1, h2⟩ := st
    obtain ⟨hqx, hqy, hi⟩ := hg
    obtain ⟨its, rv, p, _⟩ := ct_k I hqx
    obtain ⟨its2, rv2, p2, _⟩ := ct_k I hqy
    have l1 := rv.length
    have l2 := rv2.length
    have z1 : its.toArray.size = xs.length := by rw [List.size_toArray]; exact l1.symm
    have z2 : its2.toArray.size = ys.length := by rw [List.size_toArray]; exact l2.symm
    have hh : X.A.in1.in1.handled = none := I.ok.hd hc
    have hTy : s.TypeIs (.ref e) "enumerate" := ⟨_, he, rfl⟩
    have nin : ∀ {c : Addr}, c ∉ [e, z, TI, TO, i1, i2] → c ≠ z ∧ c ≠ TO ∧ c ≠ i1 ∧ c ≠ i2 := fun hcn => by
      simp only [List.mem_cons, not_or] at hcn
      exact ⟨hcn.2.1, hcn.2.2.2.1, hcn.2.2.2.2.1, hcn.2.2.2.2.2.1⟩
    unfold pyNext
    refine wpAny_bind (wpAny_attempt (wpAny_callSpecial?_slot (name := Str.ofString "__next__") hTy F.slot_enumerate_next
      (wpAny_call_entry F.slot_enumerate_next hTy F.entry_enumerate_next ?_ (F.args_enumerate_next_1 _))))
    show wpAny _ _ (field (.ref e) 2 >>= _) _ _ _
    refine wpAny_bind (wpAny_field he rfl (x := .ref z) rfl ?_)
    refine wpAny_bind (zipX_stop S (draws_k hh k1 i1 a ha its.toArray) (draws_k hh k2 i2 b hb its2.toArray) (i := i) ⟨⟨v0, f, hz, hv⟩, hTI, ⟨x0, y0, hTO⟩, ⟨h1, p⟩, ⟨h2, p2⟩⟩ (by omega) (by omega) (by omega) fun h' tk x hk hx => ?_)
    obtain ⟨o, ho, hc'⟩ := hx
    refine wpAny_bind (wpAny_isInstance (T := "StopIteration") (b := true) ⟨o, ho, hc'⟩ isSubtype_stop ?_)
    refine wpAny_pure ⟨rfl, ?_⟩
    exact I.turnedL (t' := tk) (ch := [e, z, TI, TO, i1, i2]) (fun c o hcn q => hk c o (nin hcn).1 (nin hcn).2.1 (nin hcn).2.2.1 (nin hcn).2.2.2 q) hf
  self := fun A i s Q E st h => by
    obtain ⟨⟨old, he⟩, _⟩ := st
    exact wpAny_pyIter_enum he h
open AutoSeq1 (wpAny_loadPart') in
theorem meets_enum_newZ (z TI TO : Addr) :
    Meets (Builtin.«enumerate.__new__» ⟨[.type "enumerate", .ref z], []⟩) (fun _ R s => IsZip s.heap z TI TO .none ∧
      R (.ok (.ret (.ref s.heap.objs.size))) { s with heap := s.heap.push { cls := .type "enumerate", data := .fields #[.none, .bool false, .ref z, rawInt 0, .none, .none] } }) :=
  .of_wp fun prog w A R s h => by
    obtain ⟨hp, g, d, tk, os⟩ := s
    obtain ⟨hz, h⟩ := h
    have hsub := sub_enumerate
    wp_walk using wpAny_loadPart' hz
    refine wpAny_stack_any fun st => wpAny_pure ?_
    split
    · rename_i c _ _ _ _ _
      cases (c == Value.type "enumerate")
      · wp_walk using wpAny_loadPart' hz, wpAny_pyIter_zip hz
        exact ⟨_, rfl, h⟩
      · wp_walk using wpAny_loadPart' hz, wpAny_pyIter_zip hz
        exact ⟨_, rfl, h⟩
    · wp_walk using wpAny_loadPart' hz, wpAny_pyIter_zip hz
      exact ⟨_, rfl, h⟩
theorem call_enum_zip {prog : Program} {w : World} {A : Around} {E : Value → Shared → Prop} {s : Shared} {z TI TO : Addr} {Q : Value → Shared → Prop} (hz : IsZip s.heap z TI TO .none)
    (h : IsEnum (s.heap.push { cls := .type "enumerate", data := .fields #[.none, .bool false, .ref z, rawInt 0, .none, .none] }) s.heap.objs.size z 0 .none →
      Q (.ref s.heap.objs.size) { s with heap := s.heap.push { cls := .type "enumerate", data := .fields #[.none, .bool false, .ref z, rawInt 0, .none, .none] } }) :
    wpAny (model prog w) A (call (.type "enumerate") [.ref z]) Q E s := by
  refine callType_new F.called_enumerate (by decide) (F.typeCall_enumerate_1 _) (F.newCall_enumerate_1 _) (fun obj => F.args_object_init_2 obj _) F.entry_enumerate_new
    (meets_enum_newZ z TI TO) ⟨hz, ?_⟩
  have he : IsEnum (s.heap.push { cls := .type "enumerate", data := .fields #[.none, .bool false, .ref z, rawInt 0, .none, .none] }) s.heap.objs.size z 0 .none := Heap.get?_push_size _ rfl
  exact ⟨⟨_, he, rfl⟩, h he⟩
theorem wk_enz {K : PySem.W.Frag} {c : Cg} {H : Hp} {k1 k2 : Bool} {p q : Addr} {xs ys : List V} {as bs : List D} (r1 : RVs K c H as xs) (r2 : RVs K c H bs ys) (s1 : ∀ c' H', Keeps c H c' H' → SqK K H' k1 p xs) (s2 : ∀ c' H', Keeps c H c' H' → SqK K H' k2 q ys) :
    Wk K c H (ItZ K k1 k2 p q xs ys) (enumL (List.zipWith pairD as bs)) := by
  have hl : (enumL (List.zipWith pairD as bs)).length = min xs.length ys.length := by rw [enumL_len, List.length_zipWith, r1.length, r2.length]
  refine ⟨fun i c' H' hi k => ⟨s1 _ _ k, s2 _ _ k, by rw [← hl]; exact hi⟩, fun c' H' k => ⟨s1 _ _ k, s2 _ _ k, hl⟩, fun i c' H' x H'' hi k y => ?_⟩
  obtain ⟨T, U, x0, y0, rfl, hT, hU, rfl, e1, e2⟩ := y
  obtain ⟨d1, g1, w1⟩ := r1.getV e1
  obtain ⟨d2, g2, w2⟩ := r2.getV e2
  have xe : ExtP c' H' c' (upd H' T (.tup [x0, y0])) := .new hT
  have xu : ExtP c' (upd H' T (.tup [x0, y0])) c' (upd (upd H' T (.tup [x0, y0])) U (.tup [.int (i : Nat), .ref T])) := .new hU
  have hd : (List.zipWith pairD as bs)[i]? = some (pairD d1 d2) := by rw [List.getElem?_zipWith, g1, g2]
  have rp : RV K c' (upd H' T (.tup [x0, y0])) (pairD d1 d2) (.ref T) := .tup upd_same two_le (.cons ((w1.keep k).keep xe.keeps) (.cons ((w2.keep k).keep xe.keeps) .nil))
  exact ⟨_, c', enumL_at _ i hd, xe.trans xu, .tup upd_same two_le (.cons (.int _) (.cons (rp.keep xu.keeps) .nil))⟩
def mEnZ (ma mb : M D) : M (List D) := mBind ma fun a => mBind mb fun b => mOpt ((zipD a b).map enumL)
section
variable {X : Cx} {T : List NTab} {W : WX} {tg e a b cnd iter : Expr} {es rest : List Expr} {pos p p2 pos2 : Pos} {m ma mb me : M D}
theorem ie_enz {elts : List Expr} {kk : Nat} {tpos : Pos} (hg : Gl X "enumerate") (hm : X.mg "enumerate" = none) (hg2 : Gl X "zip") (hm2 : X.mg "zip" = none) (ha : EE X T W a ma) (hb : EE X T W b mb) (hs : starEach [a, b] X.env = (false, eval a X.env) :: starEach [b] X.env) (hs2 : starEach [b] X.env = (false, eval b X.env) :: starEach [] X.env)
    (hpl : (backTo pos2 (starEach [b] X.env)).any (·.1) = false) (hs3 : starEach [.Call (.Name "zip" p2) [a, b] [] pos2] X.env = [(false, eval (.Call (.Name "zip" p2) [a, b] [] pos2) X.env)]) : IE X T W (.Tuple elts kk tpos) (.Call (.Name "enumerate" p) [.Call (.Name "zip" p2) [a, b] [] pos2] [] pos) (mEnZ ma mb) := by
  refine ⟨fun pins s σ H R I h => ?_⟩
  obtain ⟨e0, c0, S0, sl, R0, h0⟩ := TM.bind2 (r1 := RV X.K) (r1' := RV X.K) (fun k h => h.keep k) h
  have arg : (tCons (TM (bo X T) W (RV X.K) ma) (tCons (TM (bo X T) W (RV X.K) mb) tNil)) σ H fun vs H1 => ∃ e c S sl a' b' x y, vs = [x, y] ∧ Rp (bo X T) e c S sl σ H1 ∧ RV X.K c H1 a' x ∧ RV X.K c H1 b' y ∧ PM (bo X T) W (rI X.K) e sl σ c H1 (mOpt ((zipD a' b').map enumL) ⟨sl, e.κs⟩ S) R :=
    ⟨e0, c0, S0, sl, R0, h0.imp fun b1 H1 ⟨e, c, S, sl, R1, p1⟩ => ⟨e, c, S, sl, R1, p1.imp fun b2 H2 ⟨e, c, S, sl, a', b', R2, ra, rb, p2⟩ => ⟨e, c, S, sl, a', b', b1, b2, rfl, R2, ra, rb, p2⟩⟩⟩
  refine Call_ (ld_blt I hg hm boot_enumerate (PyProof.Rows.callWith_type1 ?_ hs3 rfl))
  rw [hs3]
  show wpAny _ _ (spliced [(false, eval (.Call (.Name "zip" p2) [a, b] [] pos2) X.env)]) _ _ s
  refine Calls.spliced_cons ?_
  refine Call_ (ld_blt I hg2 hm2 PyProof.Rows.boot_zip (PyProof.Rows.callWith_type1 (thn ((pa_cons ha (pa_cons hb pa_nil hs2) hs).run pos2 pins s σ H _ I arg) fun us s1 ⟨vs, H1, I1, r1, q1⟩ => ?_) hs hpl))
  obtain ⟨e1, c1, S1, sl1, da, db, x, y, rfl, R1, ra, rb, pz⟩ := q1
  obtain ⟨ds, hd0, k⟩ := pz.opt R1
  obtain ⟨ds0, hd, rfl⟩ := Option.map_eq_some_iff.mp hd0
  unfold zipD at hd
  split at hd
  · rename_i k1 as k2 bs hk1 hk2
    cases hd
    obtain ⟨q1, xs, rfl, z1, rs1, s1'⟩ := kind_sq ra hk1
    obtain ⟨q2, ys, rfl, z2, rs2, s2'⟩ := kind_sq rb hk2
    obtain ⟨u1, u2, rfl, w1, w2⟩ := vals2 r1
    obtain rfl : u1 = .ref q1 := w1
    obtain rfl : u2 = .ref q2 := w2
    obtain ⟨its, rv, p1, lt1⟩ := ct_k I1 (s1' _ _ .refl)
    obtain ⟨its2, rv2, p2, lt2⟩ := ct_k I1 (s2' _ _ .refl)
    refine zip_begins2 (begins_k k1 q1 its.toArray) (begins_k k2 q2 its2.toArray) p1 p2 fun h' hz hTI hTO g1 g2 hsz hkp => ?_
    refine Calls.spliced_nil ?_
    refine call_enum_zip (s := { s1 with heap := h' }) hz fun he => wpAny_pyIter_enum he ?_
    have hkp2 : ∀ b o, s1.heap.get? b = some o → (h'.push { cls := .type "enumerate", data := .fields #[.none, .bool false, .ref (s1.heap.objs.size + 4), rawInt 0, .none, .none] }).get? b = some o := fun b o q => Heap.get?_push_of_some _ (hkp b o q)
    have I2 : Inv X pins σ H1 { s1 with heap := h'.push { cls := .type "enumerate", data := .fields #[.none, .bool false, .ref (s1.heap.objs.size + 4), rawInt 0, .none, .none] } } := I1.kept (t' := s1.toks) hkp2
    have sep := zip_sep2 (N := s1.heap.objs.size) (fp1 := [q1]) (fp2 := [q2]) (fun b hb => by rw [List.mem_singleton.mp hb]; exact lt1) (fun b hb => by rw [List.mem_singleton.mp hb]; exact lt2)
    have hE : (h'.objs.size : Nat) = (s1.heap.objs.size : Nat) + 5 := hsz
    have lt1' : (q1 : Nat) < s1.heap.objs.size := lt1
    have lt2' : (q2 : Nat) < s1.heap.objs.size := lt2
    have gt : ∀ k : Nat, k < h'.objs.size → h'.objs.size ≠ k := fun k h => Nat.ne_of_gt h
    have n4 := gt (s1.heap.objs.size + 4) (by rw [hE]; omega)
    have n2 := gt (s1.heap.objs.size + 2) (by rw [hE]; omega)
    have n3 := gt (s1.heap.objs.size + 3) (by rw [hE]; omega)
    have n0 := gt (s1.heap.objs.size) (by rw [hE]; omega)
    have n1 := gt (s1.heap.objs.size + 1) (by rw [hE]; omega)
    have na := gt q1 (by rw [hE]; exact Nat.lt_of_lt_of_le lt1' (Nat.le_add_right _ _))
    have nb := gt q2 (by rw [hE]; exact Nat.lt_of_lt_of_le lt2' (Nat.le_add_right _ _))
    refine ⟨h'.objs.size, [h'.objs.size, s1.heap.objs.size + 4, s1.heap.objs.size + 2, s1.heap.objs.size + 3, s1.heap.objs.size, s1.heap.objs.size + 1], _, _, H1, rfl, I2,
      turn_enz (e := h'.objs.size) (z := s1.heap.objs.size + 4) (TI := s1.heap.objs.size + 2) (TO := s1.heap.objs.size + 3) (i1 := s1.heap.objs.size) (i2 := s1.heap.objs.size + 1) (a := q1) (b := q2) (k1 := k1) (k2 := k2) (xs := xs) (ys := ys) sep (Nat.ne_of_lt lt1) (Nat.ne_of_lt (Nat.lt_succ_of_lt lt2)) n4 n2 n3 n0 n1 na nb,
      ⟨⟨.none, he⟩, ⟨.none, false, Heap.get?_push_of_some _ hz, .inl rfl⟩, Heap.get?_push_of_some _ hTI, ⟨_, _, Heap.get?_push_of_some _ hTO⟩, (itAt_0 g1).at_ fun o q => Heap.get?_push_of_some _ q, (itAt_0 g2).at_ fun o q => Heap.get?_push_of_some _ q⟩, fun c hcm => ?_, ?_⟩
    · have hle : s1.heap.objs.size ≤ c := by
        have e' : c = h'.objs.size ∨ c = s1.heap.objs.size + 4 ∨ c = s1.heap.objs.size + 2 ∨ c = s1.heap.objs.size + 3 ∨ c = s1.heap.objs.size ∨ c = s1.heap.objs.size + 1 := by simpa using hcm
        rcases e' with z | z | z | z | z | z <;> (rw [z]; first | exact Nat.le_refl _ | exact Nat.le_add_right _ _ | (rw [hE]; exact Nat.le_add_right _ _))
      exact I1.fpOk hle (I1.hok.fresh hle)
    · exact k c1 H1 _ .refl ⟨wk_enz rs1 rs2 s1' s2', by rw [enumL_len, List.length_zipWith, rs1.length, rs2.length]; exact Nat.le_trans (Nat.min_le_left _ _) z1⟩
  · cases hd
end
end Lk
set_option Elab.async false
set_option linter.all false
set_option maxRecDepth 100000
set_option maxHeartbeats 1000000
set_option autoImplicit false
namespace Lk
open PySem PySem.Spec PyProof.Rows L2 NdefX
/-! ### the law's def, the head -/
/-- what a law's def is to do with a script -/
def spLaw (K : PySem.W.Frag) (k : Nat) : Sp := fun vs H Q _ => ∃ (a : Addr) (ns : List Int), vs = [.ref a] ∧ ns.length ≤ k ∧ Only H ∧ SqL K H a (ns.map V.int) ∧ ∀ H', Q (.bl true) H'
theorem ints_rv {K : PySem.W.Frag} {c : Cg} {H : Hp} : ∀ ns : List Int, RVs K c H (ns.map D.int) (ns.map V.int)
  | [] => .nil
  | n :: ns => .cons (.int n) (ints_rv ns)
theorem law_sp {B : Bd} {k : Nat} {sem : FSem} (hT : B.T = []) (hk : k ≤ sizeLine) (math : ∀ ns : List Int, ns.length ≤ k → ∃ S, sem [.klst (ns.map .int)] [] [] = some (.ok (.bl true) S)) (vs : List V) (H : Hp) (Q : VK) (E : XK) (h : spLaw B.K k vs H Q E) : spOf B 1 sem vs H Q E := by
  obtain ⟨a, ns, rfl, hl, hO, hS, hQ⟩ := h
  obtain ⟨S, hm⟩ := math ns hl
  have z : (ns.map V.int).length ≤ sizeLine := by rw [List.length_map]; omega
  refine ⟨rfl, ⟨fun x => x = a ∧ H a ≠ none, []⟩, [], [.klst (ns.map .int)], [], [], ⟨fun x hx => by rw [hx.1]; exact hx.2, rfl, .nil, fun x hx => by simp at hx, fun k ob p e1 e2 => by simp at e1⟩, fun p hp => by rw [hT] at hp; simp at hp, ⟨rfl, fun j κ v e1 e2 => by simp at e1⟩, .cons (.rv ?_) .nil, ?_⟩
  · rcases hS with h | h
    · refine .klF ⟨rfl, ?_⟩ h z (ints_rv ns)
      rcases h with h | ⟨o, h⟩ <;> (rw [h]; exact fun z => by cases z)
    · exact .klK h z (ints_rv ns)
  · rw [hm]
    intro c' H' v x st tb rv
    cases rv
    exact hQ H'
abbrev AlL : Type := He.AlD × Bool
def obsL (fa : List He.Fa) (fn : List He.DefD) (ts : List (Str × List He.Dv)) (K : PySem.W.Frag) : AlL := (He.obsD fa fn K, ts.all fun t => He.tupB K t.1 t.2)
def valL (fn : List He.DefD) : AlL := (He.valD fn, true)
def SaysL (fa : List He.Fa) (fn : List He.DefD) (ts : List (Str × List He.Dv)) (K : PySem.W.Frag) : Prop := obsL fa fn ts K = valL fn
def obsLG (n : Nat) (fa : List He.Fa) (fn : List He.DefD) (ts : List (Str × List He.Dv)) (g : Addr → Option Obj) : AlL := obsL fa fn ts (He.frG g (He.asD g n))
def hookL (n : Nat) (fa : List He.Fa) (fn : List He.DefD) (ts : List (Str × List He.Dv)) : PySem.W.Hook where
  α := AlL
  obs := fun s => obsLG n fa fn ts s.heap.get?
  val := fun _ => valL fn
  says := fun _ h => ∃ K : PySem.W.Frag, K.In h ∧ SaysL fa fn ts K
  of := fun _ _ e => ⟨_, He.frG_in, e⟩
  keeps := fun _ _ _ ⟨K, hK, c⟩ k => ⟨K, PySem.W.Frag.In.keeps hK k, c⟩
theorem obsLG_eq {n : Nat} {fa : List He.Fa} {fn : List He.DefD} {ts : List (Str × List He.Dv)} {g : Addr → Option Obj} {s : Shared} (h : ∀ a, g a = s.heap.get? a) : obsLG n fa fn ts g = (hookL n fa fn ts).obs s := by
  have e : g = s.heap.get? := funext h
  rw [e] <;> rfl
section
variable {fa : List He.Fa} {fn : List He.DefD} {ts : List (Str × List He.Dv)} {K : PySem.W.Frag} {B : Bd} {h : Heap} {mg : Str → Option Value}
theorem SaysL.d (c : SaysL fa fn ts K) : He.SaysD fa fn K := congrArg (fun z : AlL => z.1) c
theorem SaysL.tab (c : SaysL fa fn ts K) {t : Str × List He.Dv} (ht : t ∈ ts) : He.tupB K t.1 t.2 = true := by
  have c2 : (ts.all fun t => He.tupB K t.1 t.2) = true := congrArg (fun z : AlL => z.2) c
  exact List.all_eq_true.mp c2 t ht
theorem gloV_tup (X : B.K.In h) (G : h.Ns mainGlobals B.mg) {x : Str} {vs : List He.Dv} {ds : List D} (c : (He.Fa.glo x).ok B.K = true) (t : He.tupB B.K x vs = true) (r : ∀ cc HH, RVs B.K cc HH ds (vs.map (He.Dv.v B.K))) (hz : (vs.map (He.Dv.v B.K)).length ≤ sizeLine) : GloV B x (.ktup ds) := by
  refine ⟨V.ref (He.ga B.K x), _, He.glo_ok X G c, rfl, fun cc HH => .ktK ?_ hz (r cc HH)⟩
  rcases He.tupB_ok t (fun _ => none) with h | h
  · rcases h with h | ⟨o, h⟩ <;> cases h
  · exact h
theorem gloV_int (X : B.K.In h) (G : h.Ns mainGlobals B.mg) {x : Str} {i : Int} (c : (He.Fa.int x i).ok B.K = true) : GloV B x (.int i) := by
  obtain ⟨t, e⟩ := He.int_ok X G c
  exact ⟨V.int i, _, e, ⟨t, rfl⟩, fun _ _ => .int i⟩
theorem gloV_str (X : B.K.In h) (G : h.Ns mainGlobals B.mg) {x z : Str} (c : (He.Fa.str x z).ok B.K = true) (o : okS z) : GloV B x (.str z) := by
  obtain ⟨t, e⟩ := He.str_ok X G c
  exact ⟨V.str z, _, e, ⟨t, rfl⟩, fun _ _ => .str o⟩
end
/-- what may be let out, whatever the world is -/
def CXx : CXT := fun o H s E e s' => ∃ P w, L2.CX P w o H s E e s'
theorem cxx_no (H : Hp) (s : Shared) (e : Value) (s' : Shared) (h : CXx [] H s (fun _ _ _ => False) e s') : False := by
  obtain ⟨P, w, a, B, H', cls, d, _, _, _, _, _, _, _, z⟩ := h
  exact z
theorem fn_cxx {P : Program} {w : World} {K : PySem.W.Frag} {mg : Str → Option Value} {base : Heap} {k : Nat} {f : Addr} {fd : FuncData} {ps : List Str} {sp : Sp} (F : FnOk P w K mg base (L2.CX P w) k f fd ps sp) : FnOk P w K mg base CXx k f fd ps sp :=
  ⟨F.len, fun A outer s H args us vs Q E hr e0 hb hv hs => codeAny_mono (F.run A outer s H args us vs Q E hr e0 hb hv hs) fun r s' q => by
    cases r with
    | error e => exact ⟨P, w, q⟩
    | ok fl =>
      cases fl with
      | ret u => exact q
      | next => exact q
      | brk => exact q
      | cont => exact q⟩
end Lk
set_option Elab.async false
set_option linter.all false
set_option maxRecDepth 100000
set_option maxHeartbeats 1000000
set_option autoImplicit false
namespace Lk
open PySem
/-! ### reckoning with meanings -/
section
variable {α β : Type} {v : Ev} {S S' : Sto} {a : α} {m : M α} {f : α → M β} {ma mb mc : M D} {mt mu : M Bool} {ms mk : M (List D)} {m1 m2 mz : MS}
@[simp] theorem ite_ap2 {γ δ ε : Type} {c : Prop} [Decidable c] (f g : γ → δ → ε) (x : γ) (y : δ) : (if c then f else g) x y = if c then f x y else g x y := by split <;> rfl
@[simp] theorem mRet_ap : mRet a v S = some (.ok a S) := (rfl)
@[simp] theorem mBind_ap : mBind m f v S = match m v S with
  | none => none
  | some (.er x S') => some (.er x S')
  | some (.ok a S') => f a v S' := (rfl)
@[simp] theorem mOpt_some : mOpt (some a) v S = some (.ok a S) := (rfl)
@[simp] theorem mOpt_none : (mOpt none : M α) v S = none := (rfl)
@[simp] theorem mVar_ap {i : Nat} : mVar i v S = match v.sl[i]? with
  | some (some (.val d)) => some (.ok d S)
  | _ => none := (rfl)
@[simp] theorem mBor_ap {i : Nat} : mBor i v S = match v.sl[i]? with
  | some (some (.val d)) => some (.ok d S)
  | some (some (.own o)) => match o.d with
    | some d => some (.ok d S)
    | none => none
  | _ => none := (rfl)
@[simp] theorem Ob_d_lst {ds : List D} : (Ob.lst ds).d = some (.lst ds) := (rfl)
@[simp] theorem Ob_d_dct {ds : List (D × D)} : (Ob.dct ds).d = some (.dct ds) := (rfl)
@[simp] theorem mOp2_ap {g : D → D → Option D} : mOp2 g ma mb v S = (mBind ma fun a => mBind mb fun b => mOpt (g a b)) v S := (rfl)
@[simp] theorem mCmp_ap {g : D → D → Option Bool} : mCmp g ma mb v S = (mBind ma fun a => mBind mb fun b => mOpt ((g a b).map .bl)) v S := (rfl)
@[simp] theorem mCmpT_ap {g : D → D → Option Bool} : mCmpT g ma mb v S = (mBind ma fun a => mBind mb fun b => mOpt (g a b)) v S := (rfl)
@[simp] theorem mIsN_ap {k : Bool} : mIsN k ma v S = (mBind ma fun a => mRet (.bl (a.isNon == k))) v S := (rfl)
@[simp] theorem mIsNT_ap {k : Bool} : mIsNT k ma v S = (mBind ma fun a => mRet (a.isNon == k)) v S := (rfl)
@[simp] theorem mTru_ap : mTru ma v S = (mBind ma fun a => mOpt (truthD a)) v S := (rfl)
@[simp] theorem mAnd_ap : mAnd ma mb v S = (mBind ma fun a => mBind (mOpt (truthD a)) fun k => if k then mb else mRet a) v S := (rfl)
@[simp] theorem mOr_ap : mOr ma mb v S = (mBind ma fun a => mBind (mOpt (truthD a)) fun k => if k then mRet a else mb) v S := (rfl)
@[simp] theorem mNot_ap : mNot ma v S = (mBind ma fun a => mBind (mOpt (truthD a)) fun k => mRet (.bl (!k))) v S := (rfl)
@[simp] theorem mAndT_ap : mAndT mt mu v S = (mBind mt fun k => if k then mu else mRet false) v S := (rfl)
@[simp] theorem mOrT_ap : mOrT mt mu v S = (mBind mt fun k => if k then mRet true else mu) v S := (rfl)
@[simp] theorem mNotT_ap : mNotT mt v S = (mBind mt fun k => mRet (!k)) v S := (rfl)
@[simp] theorem mIf_ap {x y : M α} : mIf mt x y v S = (mBind mt fun k => if k then x else y) v S := (rfl)
@[simp] theorem mNil_ap : mNil v S = some (.ok [] S) := (rfl)
@[simp] theorem mCons_ap : mCons ma ms v S = (mBind ma fun a => mBind ms fun as => mRet (a :: as)) v S := (rfl)
@[simp] theorem mTup_ap : mTup ms v S = (mBind ms fun ds => if ds.length ≤ sizeLine then mRet (.tup ds) else mOpt none) v S := (rfl)
@[simp] theorem mLst_ap : mLst ms v S = (mBind ms fun ds => if ds.length ≤ sizeLine then mRet (.lst ds) else mOpt none) v S := (rfl)
@[simp] theorem mLs_ap : mLs ms v S = (mBind ms fun ds => mRet (.lst ds)) v S := (rfl)
@[simp] theorem mIsi_ap {t : TyN} : mIsi t ma v S = (mBind ma fun a => mOpt ((isiD t a).map .bl)) v S := (rfl)
@[simp] theorem mCall_ap {g : List D → Option D} : mCall g ms v S = (mBind ms fun ds => mOpt (g ds)) v S := (rfl)
@[simp] theorem mFn_ap {sem : FSem} {dfl : List D} : mFn sem dfl ms v S = (mBind ms fun ds => fun v S => sem (ds ++ dfl) v.κs S) v S := (rfl)
@[simp] theorem mFnK_ap {sem : FSem} : mFnK sem ms mk v S = (mBind ms fun ds => mBind mk fun es => fun v S => sem (ds ++ es) v.κs S) v S := (rfl)
@[simp] theorem mIxS_ap : mIxS ma mb v S = (mBind ma fun a => mBind mb fun b => fun _ S => match ixS S a b with
  | some d => some (.ok d S)
  | none => none) v S := (rfl)
@[simp] theorem mIt_ap : mIt ma v S = (mBind ma fun a => mOpt (iterD a)) v S := (rfl)
@[simp] theorem mSkip_ap : mSkip v S = some (.nx v.sl S) := (rfl)
@[simp] theorem mSeq_ap : mSeq m1 m2 v S = match m1 v S with
  | some (.nx sl S') => m2 ⟨sl, v.κs⟩ S'
  | r => r := (rfl)
@[simp] theorem mThen_ap {k : α → MS} : mThen m k v S = match m v S with
  | none => none
  | some (.er x S') => some (.er x v.sl S')
  | some (.ok a S') => k a v S' := (rfl)
@[simp] theorem mNx_ap {g : List (Option Sl) → Option (List (Option Sl))} : mNx g v S = match g v.sl with
  | none => none
  | some sl => some (.nx sl S) := (rfl)
@[simp] theorem mRtn_ap : mRtn ma v S = mThen ma (fun d _ S => some (.rt d S)) v S := (rfl)
@[simp] theorem mIfS_ap : mIfS mt m1 m2 v S = mThen mt (fun k => if k then m1 else m2) v S := (rfl)
@[simp] theorem mSet_ap {i : Nat} : mSet i ma v S = mThen ma (fun d => mNx fun sl => some (sl.set i (some (.val d)))) v S := (rfl)
@[simp] theorem mSetO_ap {i : Nat} {mo : M Ob} : mSetO i mo v S = mThen mo (fun o => mNx fun sl => some (sl.set i (some (.own o)))) v S := (rfl)
@[simp] theorem mSetT_ap {t : Tg} : mSetT t ma v S = mThen ma (fun d => mNx (bindT t d)) v S := (rfl)
@[simp] theorem semOf_ap {n : Nat} {ds : List D} {κs : List Sem} : semOf n m1 ds κs S = match m1 ⟨startSl n ds, κs⟩ S with
  | some (.nx _ S') => some (.ok .non S')
  | some (.rt d S') => some (.ok d S')
  | some (.er x _ S') => some (.er x S')
  | _ => none := (rfl)
end
/-! ### comprehensions -/
section
variable {t : Tg} {vs : List Nat} {mt : M Bool} {me : M D} {v : Ev} {S : Sto}
/-- pure ones, over the images of a list -/
theorem compL_map {α : Type} (F : α → D) (p : α → Bool) (g : α → D) : ∀ (xs : List α) (acc : List D), (∀ x ∈ xs, ∃ sl, bindT t (F x) (wipeSl v.sl vs) = some sl ∧ mt ⟨sl, v.κs⟩ S = some (.ok (p x) S) ∧ (p x = true → me ⟨sl, v.κs⟩ S = some (.ok (g x) S))) →
    compL t vs mt me v (xs.map F) acc S = some (.ok (acc ++ (xs.filter p).map g) S)
  | [], acc, _ => by simp [compL]
  | x :: xs, acc, h => by
    obtain ⟨sl, h1, h2, h3⟩ := h x List.mem_cons_self
    have ih := compL_map F p g xs
    rw [List.map_cons]
    unfold compL
    simp only [h1, h2]
    cases hp : p x with
    | true =>
      simp only [h3 hp]
      rw [ih _ fun y hy => h y (List.mem_cons_of_mem _ hy), List.filter_cons_of_pos hp]
      simp
    | false =>
      simp only
      rw [ih _ fun y hy => h y (List.mem_cons_of_mem _ hy), List.filter_cons_of_neg (by simp [hp])]
/-- pure ones without tests -/
theorem compL_all {α : Type} (F : α → D) (g : α → D) (xs : List α) (h : ∀ x ∈ xs, ∃ sl, bindT t (F x) (wipeSl v.sl vs) = some sl ∧ mt ⟨sl, v.κs⟩ S = some (.ok true S) ∧ me ⟨sl, v.κs⟩ S = some (.ok (g x) S)) :
    compL t vs mt me v (xs.map F) [] S = some (.ok (xs.map g) S) := by
  rw [compL_map F (fun _ => true) g xs [] fun x hx => by
    obtain ⟨sl, h1, h2, h3⟩ := h x hx
    exact ⟨sl, h1, h2, fun _ => h3⟩]
  have e : xs.filter (fun _ => true) = xs := List.filter_eq_self.mpr fun _ _ => rfl
  rw [e, List.nil_append]
/-- ones that change the store, with an invariant -/
theorem compL_inv (I : Sto → Prop) (P : D → D → Prop) : ∀ (ds acc : List D) (S : Sto), (∀ d ∈ ds, ∀ S, I S → ∃ sl, bindT t d (wipeSl v.sl vs) = some sl ∧ mt ⟨sl, v.κs⟩ S = some (.ok true S) ∧ ∃ x S2, me ⟨sl, v.κs⟩ S = some (.ok x S2) ∧ I S2 ∧ P d x) → I S →
    ∃ out S', compL t vs mt me v ds acc S = some (.ok (acc ++ out) S') ∧ I S' ∧ out.length = ds.length ∧ ∀ (i : Nat) d x, ds[i]? = some d → out[i]? = some x → P d x
  | [], acc, S, _, hI => ⟨[], S, by simp [compL], hI, rfl, fun i d x h _ => by simp at h⟩
  | d :: ds, acc, S, h, hI => by
    obtain ⟨sl, h1, h2, x, S2, h3, h4, h5⟩ := h d List.mem_cons_self S hI
    obtain ⟨out, S', e, i', l, q⟩ := compL_inv I P ds (acc ++ [x]) S2 (fun d hd => h d (List.mem_cons_of_mem _ hd)) h4
    refine ⟨x :: out, S', ?_, i', by rw [List.length_cons, List.length_cons, l], fun i d' x' e1 e2 => ?_⟩
    · unfold compL
      simp only [h1, h2, h3, e]
      simp
    · cases i with
      | zero => simp at e1 e2; subst e1 e2; exact h5
      | succ i => exact q i d' x' (by simpa using e1) (by simpa using e2)
theorem mComp_ok {mi : M (List D)} {ds out : List D} {S1 S' : Sto} (h : mi v S = some (.ok ds S1)) (h' : compL t vs mt me v ds [] S1 = some (.ok out S')) : mComp mi t vs mt me v S = some (.ok out S') := by
  unfold mComp
  rw [mBind_ap, h]
  exact h'
end
/-! ### loops -/
section
variable {t : Tg} {mb : MS} {κs : List Sem}
/-- a turn of a loop that goes on -/
def Goes (mb : MS) (κs : List Sem) (sl : List (Option Sl)) (S : Sto) (sl' : List (Option Sl)) (S' : Sto) : Prop := mb ⟨sl, κs⟩ S = some (.nx sl' S') ∨ mb ⟨sl, κs⟩ S = some (.ct sl' S')
theorem mLoop_go {k : MS} {sl sl' : List (Option Sl)} {S S' : Sto} (h : Goes mb κs sl S sl' S') : mLoop mb k ⟨sl, κs⟩ S = k ⟨sl', κs⟩ S' := by
  unfold mLoop
  rcases h with h | h <;> rw [h]
theorem mLoop_ret {k : MS} {sl : List (Option Sl)} {S S' : Sto} {d : D} (h : mb ⟨sl, κs⟩ S = some (.rt d S')) : mLoop mb k ⟨sl, κs⟩ S = some (.rt d S') := by
  unfold mLoop; rw [h]
theorem mLoop_brk {k : MS} {sl sl' : List (Option Sl)} {S S' : Sto} (h : mb ⟨sl, κs⟩ S = some (.bk sl' S')) : mLoop mb k ⟨sl, κs⟩ S = some (.nx sl' S') := by
  unfold mLoop; rw [h]
/-- a for whose turns all go on: P of what is left -/
theorem forL_run (P : List D → List (Option Sl) → Sto → Prop) (step : ∀ d ds sl S, P (d :: ds) sl S → ∃ sl1, bindT t d sl = some sl1 ∧ ∃ sl2 S2, Goes mb κs sl1 S sl2 S2 ∧ P ds sl2 S2) :
    ∀ (ds : List D) (sl : List (Option Sl)) (S : Sto), P ds sl S → ∃ sl' S', forL t mb ds ⟨sl, κs⟩ S = some (.nx sl' S') ∧ P [] sl' S'
  | [], sl, S, h => ⟨sl, S, rfl, h⟩
  | d :: ds, sl, S, h => by
    obtain ⟨sl1, h1, sl2, S2, h2, h3⟩ := step d ds sl S h
    obtain ⟨sl', S', e, q⟩ := forL_run P step ds sl2 S2 h3
    refine ⟨sl', S', ?_, q⟩
    unfold forL
    simp only [h1]
    rw [mLoop_go h2]; exact e
/-- a for that may return -/
theorem forL_ret (P : List D → List (Option Sl) → Sto → Prop) (Z : D → Sto → Prop) (step : ∀ d ds sl S, P (d :: ds) sl S → ∃ sl1, bindT t d sl = some sl1 ∧ ((∃ sl2 S2, Goes mb κs sl1 S sl2 S2 ∧ P ds sl2 S2) ∨ ∃ r S2, mb ⟨sl1, κs⟩ S = some (.rt r S2) ∧ Z r S2)) :
    ∀ (ds : List D) (sl : List (Option Sl)) (S : Sto), P ds sl S → (∃ sl' S', forL t mb ds ⟨sl, κs⟩ S = some (.nx sl' S') ∧ P [] sl' S') ∨ ∃ r S', forL t mb ds ⟨sl, κs⟩ S = some (.rt r S') ∧ Z r S'
  | [], sl, S, h => .inl ⟨sl, S, rfl, h⟩
  | d :: ds, sl, S, h => by
    obtain ⟨sl1, h1, h2⟩ := step d ds sl S h
    rcases h2 with ⟨sl2, S2, h2, h3⟩ | ⟨r, S2, h2, h3⟩
    · rcases forL_ret P Z step ds sl2 S2 h3 with ⟨sl', S', e, q⟩ | ⟨r, S', e, q⟩
      · exact .inl ⟨sl', S', by unfold forL; simp only [h1]; rw [mLoop_go h2]; exact e, q⟩
      · exact .inr ⟨r, S', by unfold forL; simp only [h1]; rw [mLoop_go h2]; exact e, q⟩
    · exact .inr ⟨r, S2, by unfold forL; simp only [h1]; exact mLoop_ret h2, h3⟩
theorem mFor_ok {mi : M (List D)} {ds : List D} {v : Ev} {S S1 : Sto} {r : Option FlR} (h : mi v S = some (.ok ds S1)) (h' : forL t mb ds v S1 = r) : mFor mi t mb v S = r := by
  unfold mFor
  rw [mThen_ap, h]
  exact h'
/-- a while by a measure -/
theorem whileN_run {mt : M Bool} (P : Nat → List (Option Sl) → Sto → Prop) (Z : List (Option Sl) → Sto → Prop)
    (step : ∀ n sl S, P n sl S → (∃ S1, mt ⟨sl, κs⟩ S = some (.ok false S1) ∧ Z sl S1) ∨ ∃ S1 sl2 S2 k, mt ⟨sl, κs⟩ S = some (.ok true S1) ∧ Goes mb κs sl S1 sl2 S2 ∧ k < n ∧ P k sl2 S2) :
    ∀ (n N : Nat) (sl : List (Option Sl)) (S : Sto), n < N → P n sl S → ∃ sl' S', whileN mt mb N ⟨sl, κs⟩ S = some (.nx sl' S') ∧ Z sl' S' := by
  intro n
  induction n using Nat.strongRecOn with
  | ind n ih =>
    intro N sl S hN h
    cases N with
    | zero => omega
    | succ N =>
      rcases step n sl S h with ⟨S1, h1, hz⟩ | ⟨S1, sl2, S2, k, h1, h2, hk, h3⟩
      · refine ⟨sl, S1, ?_, hz⟩
        unfold whileN
        rw [mThen_ap, h1]
        rfl
      · obtain ⟨sl', S', e, q⟩ := ih k hk N sl2 S2 (by omega) h3
        refine ⟨sl', S', ?_, q⟩
        unfold whileN
        rw [mThen_ap, h1]
        show (if true = true then mLoop mb (whileN mt mb N) else mSkip) ⟨sl, κs⟩ S1 = _
        rw [if_pos rfl, mLoop_go h2]; exact e
end
theorem rng2_ok {i j : Int} (h : j - i ≤ 16777216) (h1 : -(2 ^ 62) ≤ i) (h2 : i < 2 ^ 62) (h3 : -(2 ^ 62) ≤ j) (h4 : j < 2 ^ 62) : rng2D (.int i) (.int j) = some (rngD i j) := by
  show (if _ then _ else _) = _
  rw [if_pos ⟨h, h1, h2, h3, h4⟩]
theorem rng1_ok {j : Int} (h : j ≤ 16777216) (h1 : -(2 ^ 62) ≤ j) : rng1D (.int j) = some (rngD 0 j) := by
  show (if _ then _ else _) = _
  rw [if_pos ⟨h, h1⟩]
section
variable {t t1 : Tg} {vs vs1 : List Nat} {mt mt1 : M Bool} {mi1 : M (List D)} {me : M D} {v : Ev} {S : Sto}
theorem compL2i_all {β : Type} (G : β → D) (g : β → D) : ∀ (ys : List β) (acc : List D), (∀ y ∈ ys, ∃ sl, bindT t1 (G y) (wipeSl v.sl vs1) = some sl ∧ mt1 ⟨sl, v.κs⟩ S = some (.ok true S) ∧ me ⟨sl, v.κs⟩ S = some (.ok (g y) S)) →
    compL2i t1 vs1 mt1 me v (ys.map G) acc S = some (.ok (acc ++ ys.map g) S)
  | [], acc, _ => by simp [compL2i]
  | y :: ys, acc, h => by
    obtain ⟨sl, h1, h2, h3⟩ := h y List.mem_cons_self
    rw [List.map_cons]
    unfold compL2i
    simp only [h1, h2, h3]
    rw [compL2i_all G g ys _ fun z hz => h z (List.mem_cons_of_mem _ hz)]
    simp
/-- pure comprehensions of two fors without tests -/
theorem compL2_all {α β : Type} (F : α → D) (ys : α → List β) (G : β → D) (g : α → β → D) (N : Nat) (hN : N ≤ sizeLine) : ∀ (xs : List α) (acc : List D), (acc.length + (xs.flatMap ys).length ≤ N) →
    (∀ x ∈ xs, ∃ sl, bindT t (F x) (wipeSl v.sl vs) = some sl ∧ mt ⟨sl, v.κs⟩ S = some (.ok true S) ∧ mi1 ⟨sl, v.κs⟩ S = some (.ok ((ys x).map G) S) ∧
      ∀ y ∈ ys x, ∃ sl1, bindT t1 (G y) (wipeSl sl vs1) = some sl1 ∧ mt1 ⟨sl1, v.κs⟩ S = some (.ok true S) ∧ me ⟨sl1, v.κs⟩ S = some (.ok (g x y) S)) →
    compL2 t vs mt mi1 t1 vs1 mt1 me v (xs.map F) acc S = some (.ok (acc ++ xs.flatMap fun x => (ys x).map (g x)) S)
  | [], acc, _, _ => by simp [compL2]
  | x :: xs, acc, hl, h => by
    obtain ⟨sl, h1, h2, h3, h4⟩ := h x List.mem_cons_self
    rw [List.flatMap_cons, List.length_append] at hl
    have hi := compL2i_all (v := ⟨sl, v.κs⟩) (S := S) (me := me) (mt1 := mt1) (t1 := t1) (vs1 := vs1) G (g x) (ys x) acc h4
    rw [List.map_cons]
    unfold compL2
    simp only [h1, h2, h3, hi]
    have hz : (acc ++ (ys x).map (g x)).length ≤ sizeLine := by
      rw [List.length_append, List.length_map]
      omega
    rw [if_pos hz, compL2_all F ys G g N hN xs _ (by rw [List.length_append, List.length_map]; omega) fun z hz => h z (List.mem_cons_of_mem _ hz)]
    simp [List.append_assoc]
theorem mComp2_ok {mi : M (List D)} {ds out : List D} {S1 S' : Sto} (h : mi v S = some (.ok ds S1)) (h' : compL2 t vs mt mi1 t1 vs1 mt1 me v ds [] S1 = some (.ok out S')) : mComp2 mi t vs mt mi1 t1 vs1 mt1 me v S = some (.ok out S') := by
  unfold mComp2
  rw [mBind_ap, h]
  exact h'
end
end Lk
set_option Elab.async false
set_option linter.all false
set_option maxRecDepth 100000
set_option maxHeartbeats 1000000
set_option autoImplicit false
namespace Lk
open PySem
/-! ### data that is compared as what it stands for -/
structure Cod {α : Type} [DecidableEq α] (F : α → D) (n : Nat) : Prop where
  pl : ∀ x, (F x).plain = true
  dp : ∀ x, (F x).P.depth ≤ n
  eq : ∀ x y, PyData.eqv (F x).P (F y).P = decide (x = y)
section
variable {α β : Type} [DecidableEq α] [DecidableEq β] {F : α → D} {G : β → D} {n m : Nat}
theorem cod_int : Cod D.int 0 := ⟨fun _ => rfl, fun _ => by simp [D.P, PyData.depth], fun x y => by
  simp [D.P, PyData.eqv]
  exact Bool.eq_iff_iff.mpr (by simp)⟩
theorem cod_str : Cod D.str 0 := ⟨fun _ => rfl, fun _ => by simp [D.P, PyData.depth], fun x y => by
  simp [D.P, PyData.eqv]
  exact Bool.eq_iff_iff.mpr (by simp)⟩
theorem Cod.mono (c : Cod F n) (h : n ≤ m) : Cod F m := ⟨c.pl, fun x => Nat.le_trans (c.dp x) h, c.eq⟩
theorem Cod.plains (c : Cod F n) (xs : List α) : Lk.plains (xs.map F) = true := by
  rw [plains_eq, List.all_map, List.all_eq_true]
  exact fun x _ => c.pl x
theorem Cod.depths (c : Cod F n) : ∀ xs : List α, PyData.depthAll (Ps (xs.map F)) ≤ n
  | [] => by simp [Ps, PyData.depthAll]
  | x :: xs => by
    have h1 := c.dp x
    have h2 := c.depths xs
    rw [List.map_cons, Ps, PyData.depthAll]
    exact Nat.max_le.mpr ⟨h1, h2⟩
theorem Cod.all (c : Cod F n) : ∀ xs ys : List α, PyData.eqvAll (Ps (xs.map F)) (Ps (ys.map F)) = decide (xs = ys)
  | [], [] => by simp [Ps, PyData.eqvAll]
  | [], y :: ys => by simp [Ps, PyData.eqvAll]
  | x :: xs, [] => by simp [Ps, PyData.eqvAll]
  | x :: xs, y :: ys => by
    rw [List.map_cons, List.map_cons, Ps, Ps, PyData.eqvAll, c.eq, c.all xs ys]
    exact Bool.eq_iff_iff.mpr (by simp)
theorem cod_tup (c : Cod F n) : Cod (fun xs : List α => D.tup (xs.map F)) (n + 1) := ⟨fun xs => c.plains xs, fun xs => by
  have := c.depths xs
  rw [D.P, PyData.depth]
  omega, fun xs ys => by
  rw [D.P, D.P, PyData.eqv]
  exact c.all xs ys⟩
theorem cod_lst (c : Cod F n) : Cod (fun xs : List α => D.lst (xs.map F)) (n + 1) := ⟨fun xs => c.plains xs, fun xs => by
  have := c.depths xs
  rw [D.P, PyData.depth]
  omega, fun xs ys => by
  rw [D.P, D.P, PyData.eqv]
  exact c.all xs ys⟩
theorem cod_pair (c : Cod F n) (c' : Cod G n) : Cod (fun p : α × β => D.tup [F p.1, G p.2]) (n + 1) := ⟨fun p => by
  show Lk.plains _ = true
  simp [Lk.plains, c.pl, c'.pl], fun p => by
  have := c.dp p.1
  have := c'.dp p.2
  rw [D.P, PyData.depth, Ps, Ps, Ps, PyData.depthAll, PyData.depthAll, PyData.depthAll]
  omega, fun p q => by
  simp only [D.P, PyData.eqv, Ps, PyData.eqvAll, c.eq, c'.eq]
  exact Bool.eq_iff_iff.mpr (by cases p; cases q; simp)⟩
def optF (F : α → D) : Option α → D
  | none => .non
  | some a => F a
theorem cod_opt (c : Cod F n) (h : ∀ x, (PyData.eqv (F x).P .none = false) ∧ PyData.eqv .none (F x).P = false) : Cod (optF F) n := ⟨fun o => by
  cases o with
  | none => rfl
  | some a => exact c.pl a, fun o => by
  cases o with
  | none => simp [optF, D.P, PyData.depth]
  | some a => exact c.dp a, fun o p => by
  cases o <;> cases p <;> simp [optF, D.P, PyData.eqv, c.eq, h]⟩
theorem eqD_cod (c : Cod F n) (h : n ≤ 64) (x y : α) : eqD (F x) (F y) = some (decide (x = y)) := by
  unfold eqD eqOk
  rw [c.pl, c.pl, c.eq]
  have h1 := c.dp x
  have h2 := c.dp y
  simp [Nat.le_trans h1 h, Nat.le_trans h2 h]
theorem neD_cod (c : Cod F n) (h : n ≤ 64) (x y : α) : neD (F x) (F y) = some (!decide (x = y)) := by
  unfold neD
  rw [eqD_cod c h]; rfl
theorem anyEq_cod (c : Cod F n) (x : α) (xs : List α) : anyEq (F x) (xs.map F) = decide (x ∈ xs) := by
  unfold anyEq
  rw [List.any_map]
  refine Bool.eq_iff_iff.mpr ?_
  rw [List.any_eq_true, decide_eq_true_iff]
  constructor
  · rintro ⟨y, hy, e⟩
    have e' : PyData.eqv (F y).P (F x).P = true := e
    rw [c.eq, decide_eq_true_iff] at e'
    rw [← e']; exact hy
  · intro hx
    exact ⟨x, hx, by show PyData.eqv (F x).P (F x).P = true; rw [c.eq]; simp⟩
theorem inD_lst (c : Cod F n) (h : n < 64) (x : α) (xs : List α) : inD (F x) (.lst (xs.map F)) = some (decide (x ∈ xs)) := by
  have h1 : eqOk (F x) = true := by
    unfold eqOk
    rw [c.pl]
    have := c.dp x
    simp; omega
  have h2 : eqOk (.lst (xs.map F)) = true := by
    unfold eqOk
    have e : (D.lst (xs.map F)).plain = true := c.plains xs
    rw [e]
    have := (cod_lst c).dp xs
    simp
    exact Nat.le_trans this h
  show (if eqOk (F x) && eqOk (.lst (xs.map F)) then some (anyEq (F x) (xs.map F)) else none) = _
  rw [h1, h2, anyEq_cod c]; rfl
theorem memD_lst (c : Cod F n) (h : n < 64) (x : α) (xs : List α) (k : Bool) : memD k (F x) (.lst (xs.map F)) = some (if k then !decide (x ∈ xs) else decide (x ∈ xs)) := by
  unfold memD
  rw [inD_lst c h]; rfl
end
/-! ### whole comprehensions, to be rewritten with -/
section
variable {t : Tg} {vs : List Nat} {mt : M Bool} {me : M D} {v : Ev} {S : Sto} {mi : M (List D)}
theorem mComp_map {α : Type} (F : α → D) (p : α → Bool) (g : α → D) (xs : List α) (hi : mi v S = some (.ok (xs.map F) S))
    (h : ∀ x ∈ xs, ∃ sl, bindT t (F x) (wipeSl v.sl vs) = some sl ∧ mt ⟨sl, v.κs⟩ S = some (.ok (p x) S) ∧ (p x = true → me ⟨sl, v.κs⟩ S = some (.ok (g x) S))) :
    mComp mi t vs mt me v S = some (.ok ((xs.filter p).map g) S) := by
  refine mComp_ok hi ?_
  rw [compL_map F p g xs [] h, List.nil_append]
theorem mComp_all {α : Type} (F : α → D) (g : α → D) (xs : List α) (hi : mi v S = some (.ok (xs.map F) S))
    (h : ∀ x ∈ xs, ∃ sl, bindT t (F x) (wipeSl v.sl vs) = some sl ∧ mt ⟨sl, v.κs⟩ S = some (.ok true S) ∧ me ⟨sl, v.κs⟩ S = some (.ok (g x) S)) :
    mComp mi t vs mt me v S = some (.ok (xs.map g) S) := mComp_ok hi (compL_all F g xs h)
theorem mComp_inv {ds : List D} {S1 : Sto} (I : Sto → Prop) (P : D → D → Prop) (hi : mi v S = some (.ok ds S1)) (h0 : I S1)
    (h : ∀ d ∈ ds, ∀ S, I S → ∃ sl, bindT t d (wipeSl v.sl vs) = some sl ∧ mt ⟨sl, v.κs⟩ S = some (.ok true S) ∧ ∃ x S2, me ⟨sl, v.κs⟩ S = some (.ok x S2) ∧ I S2 ∧ P d x) :
    ∃ out S', mComp mi t vs mt me v S = some (.ok out S') ∧ I S' ∧ out.length = ds.length ∧ ∀ (i : Nat) d x, ds[i]? = some d → out[i]? = some x → P d x := by
  obtain ⟨out, S', e, i', l, q⟩ := compL_inv (t := t) (vs := vs) (mt := mt) (me := me) (v := v) I P ds [] S1 h h0
  exact ⟨out, S', mComp_ok hi (by rw [e]; rfl), i', l, q⟩
end
section
variable {t : Tg} {mb : MS} {v : Ev} {mi : M (List D)} {S S1 : Sto} {ds : List D}
/-- a for whose turns all go on, over the images of a list, with an invariant of what is left and the slots -/
theorem mFor_inv (P : List D → List (Option Sl) → Sto → Prop) (hi : mi v S = some (.ok ds S1)) (h0 : P ds v.sl S1)
    (step : ∀ d ds sl S, P (d :: ds) sl S → ∃ sl1, bindT t d sl = some sl1 ∧ ∃ sl2 S2, Goes mb v.κs sl1 S sl2 S2 ∧ P ds sl2 S2) :
    ∃ sl' S', mFor mi t mb v S = some (.nx sl' S') ∧ P [] sl' S' := by
  obtain ⟨sl', S', e, q⟩ := forL_run (κs := v.κs) (t := t) (mb := mb) P step ds v.sl S1 h0
  exact ⟨sl', S', mFor_ok hi e, q⟩
end
/-! ### what is wanted behind code -/
/-- keeps simp out of what a mark stands at -/
class Mk {α : Sort _} (a : α) : Type where
instance mk {α : Sort _} (a : α) : Mk a := ⟨⟩
def RE {α : Type} (r : Option (R α)) (Q : α → Sto → Prop) (E : Exc → Sto → Prop) : Prop := match r with
  | some (.ok a S) => Q a S
  | some (.er x S) => E x S
  | none => False
def RS (r : Option FlR) (N : List (Option Sl) → Sto → Prop) (T : D → Sto → Prop) (B C : List (Option Sl) → Sto → Prop) (E : Exc → List (Option Sl) → Sto → Prop) : Prop := match r with
  | some (.nx sl S) => N sl S
  | some (.rt d S) => T d S
  | some (.bk sl S) => B sl S
  | some (.ct sl S) => C sl S
  | some (.er x sl S) => E x sl S
  | none => False
def RO {α : Type} (o : Option α) (Q : α → Prop) : Prop := ∃ a, o = some a ∧ Q a
def RI (k : Bool) (A B : Prop) : Prop := if k then A else B
section
variable {α : Type} {Q Q' : α → Sto → Prop} {E E' : Exc → Sto → Prop} {r r' : Option (R α)}
theorem RI_true {A B : Prop} : RI true A B ↔ A := by simp [RI]
theorem RI_false {A B : Prop} : RI false A B ↔ B := by simp [RI]
theorem RO_some {a : α} {P : α → Prop} : RO (some a) P ↔ P a := ⟨fun ⟨_, e, h⟩ => by cases e; exact h, fun h => ⟨a, rfl, h⟩⟩
theorem RO_none {P : α → Prop} : RO (none : Option α) P ↔ False := ⟨fun ⟨_, e, _⟩ => (by cases e), fun h => h.elim⟩
theorem RE.use (h : RE r Q E) (f : ∀ a S, Q a S → Q' a S) : RE r Q' E := by
  unfold RE at h ⊢
  split at h
  · exact f _ _ h
  · exact h
  · exact h
end
/-- what simp leaves as it is -/
structure Hd (p : Prop) [Mk p] : Prop where
  get : p
/-! slots -/
@[simp] def valAt : List (Option Sl) → Nat → Option D
  | [], _ => none
  | s :: _, 0 => match s with
    | some (.val d) => some d
    | _ => none
  | _ :: l, n + 1 => valAt l n
@[simp] def borAt : List (Option Sl) → Nat → Option D
  | [], _ => none
  | s :: _, 0 => match s with
    | some (.val d) => some d
    | some (.own o) => o.d
    | _ => none
  | _ :: l, n + 1 => borAt l n
@[simp] def frzAt : List (Option Sl) → Nat → Option (List (Option Sl))
  | [], _ => none
  | s :: l, 0 => match s with
    | some (.val d) => some (some (.val d) :: l)
    | some (.own o) => o.d.map fun d => some (.val d) :: l
    | _ => none
  | s :: l, n + 1 => (frzAt l n).map (s :: ·)
@[simp] def ownAt : List (Option Sl) → Nat → Option (List D)
  | [], _ => none
  | s :: _, 0 => match s with
    | some (.own (.lst xs)) => some xs
    | _ => none
  | _ :: l, n + 1 => ownAt l n
@[simp] def hasAt : List (Option Sl) → Nat → Bool
  | [], _ => false
  | s :: _, 0 => s.isSome
  | _ :: l, n + 1 => hasAt l n
theorem valAt_eq : ∀ (l : List (Option Sl)) (i : Nat), valAt l i = match l[i]? with
    | some (some (.val d)) => some d
    | _ => none
  | [], _ => by simp [valAt]
  | s :: _, 0 => by simp [valAt]; rcases s with _ | (_ | _ | _) <;> rfl
  | _ :: l, n + 1 => by simpa [valAt] using valAt_eq l n
theorem borAt_eq : ∀ (l : List (Option Sl)) (i : Nat), borAt l i = match l[i]? with
    | some (some (.val d)) => some d
    | some (some (.own o)) => o.d
    | _ => none
  | [], _ => by simp [borAt]
  | s :: _, 0 => by simp [borAt]; rcases s with _ | (_ | _ | _) <;> rfl
  | _ :: l, n + 1 => by simpa [borAt] using borAt_eq l n
theorem frzAt_eq : ∀ (l : List (Option Sl)) (i : Nat), frzAt l i = match l[i]? with
    | some (some (.val d)) => some l
    | some (some (.own o)) => o.d.map fun d => l.set i (some (.val d))
    | _ => none
  | [], _ => by simp [frzAt]
  | s :: _, 0 => by simp [frzAt]; rcases s with _ | (_ | _ | _) <;> rfl
  | s :: l, n + 1 => by
    rw [frzAt, frzAt_eq l n]
    simp only [List.getElem?_cons_succ, List.set_cons_succ]
    rcases h : l[n]? with _ | (_ | (d | o | _)) <;> simp
    cases o.d <;> rfl
theorem ownAt_eq : ∀ (l : List (Option Sl)) (i : Nat), ownAt l i = match l[i]? with
    | some (some (.own (.lst xs))) => some xs
    | _ => none
  | [], _ => by simp [ownAt]
  | s :: _, 0 => by simp [ownAt]; rcases s with _ | (_ | (_ | _ | _) | _) <;> rfl
  | _ :: l, n + 1 => by simpa [ownAt] using ownAt_eq l n
theorem hasAt_eq : ∀ (l : List (Option Sl)) (i : Nat), hasAt l i = match l[i]? with
    | some (some _) => true
    | _ => false
  | [], _ => by simp [hasAt]
  | s :: _, 0 => by simp [hasAt]; rcases s with _ | _ <;> rfl
  | _ :: l, n + 1 => by simpa [hasAt] using hasAt_eq l n
section
variable {α β : Type} {v : Ev} {S : Sto} {a : α} {Q : α → Sto → Prop} {P : D → Sto → Prop} {PB : Bool → Sto → Prop} {PL : List D → Sto → Prop} {E : Exc → Sto → Prop} {ma mb mc : M D} {mt mu : M Bool} {ms mk : M (List D)} {i : Nat}
theorem RE_ret : RE (mRet a v S) Q E ↔ Q a S := Iff.rfl
theorem RE_bind {m : M β} {f : β → M α} : RE (mBind m f v S) Q E ↔ RE (m v S) (fun b S' => RE (f b v S') Q E) E := by
  unfold mBind
  rcases m v S with _ | (_ | _) <;> simp [RE]
theorem RE_opt {o : Option α} : RE (mOpt o v S) Q E ↔ RO o fun a => Q a S := by
  unfold mOpt
  cases o <;> simp [RE, RO]
theorem RE_var : RE (mVar i v S) P E ↔ RO (valAt v.sl i) fun d => P d S := by
  rw [valAt_eq]
  unfold mVar
  rcases v.sl[i]? with _ | (_ | (_ | _ | _)) <;> simp [RE, RO]
theorem RE_bor : RE (mBor i v S) P E ↔ RO (borAt v.sl i) fun d => P d S := by
  rw [borAt_eq]
  unfold mBor
  rcases v.sl[i]? with _ | (_ | (_ | o | _)) <;> simp [RE, RO]
  cases o.d <;> simp [RE, RO]
theorem RE_op2 {g : D → D → Option D} : RE (mOp2 g ma mb v S) P E ↔ RE (ma v S) (fun a S1 => RE (mb v S1) (fun b S2 => RO (g a b) fun d => P d S2) E) E := by
  unfold mOp2; simp only [RE_bind, RE_opt]
theorem RE_cmp {g : D → D → Option Bool} : RE (mCmp g ma mb v S) P E ↔ RE (ma v S) (fun a S1 => RE (mb v S1) (fun b S2 => RO (g a b) fun d => P (.bl d) S2) E) E := by
  unfold mCmp; simp only [RE_bind, RE_opt]
  constructor <;> intro h <;> refine h.use fun a S1 h => h.use fun b S2 h => ?_
  · obtain ⟨d, e, h⟩ := h
    obtain ⟨k, e1, e2⟩ := Option.map_eq_some_iff.mp e
    exact ⟨k, e1, by subst e2; exact h⟩
  · obtain ⟨d, e, h⟩ := h
    exact ⟨_, by rw [e]; rfl, h⟩
theorem RE_cmpT {g : D → D → Option Bool} : RE (mCmpT g ma mb v S) PB E ↔ RE (ma v S) (fun a S1 => RE (mb v S1) (fun b S2 => RO (g a b) fun d => PB d S2) E) E := by
  unfold mCmpT; simp only [RE_bind, RE_opt]
theorem RE_isN {k : Bool} : RE (mIsN k ma v S) P E ↔ RE (ma v S) (fun a S' => P (.bl (a.isNon == k)) S') E := by
  unfold mIsN; simp only [RE_bind, RE_ret]
theorem RE_isNT {k : Bool} : RE (mIsNT k ma v S) PB E ↔ RE (ma v S) (fun a S' => PB (a.isNon == k) S') E := by
  unfold mIsNT; simp only [RE_bind, RE_ret]
theorem RE_tru : RE (mTru ma v S) PB E ↔ RE (ma v S) (fun a S' => RO (truthD a) fun k => PB k S') E := by
  unfold mTru; simp only [RE_bind, RE_opt]
theorem RE_ite {k : Bool} {x y : M α} : RE ((if k = true then x else y) v S) Q E ↔ RI k (RE (x v S) Q E) (RE (y v S) Q E) := by
  cases k <;> simp [RI]
theorem RE_and : RE (mAnd ma mb v S) P E ↔ RE (ma v S) (fun a S' => RO (truthD a) fun k => RI k (RE (mb v S') P E) (P a S')) E := by
  unfold mAnd; simp only [RE_bind, RE_opt, RE_ite, RE_ret]
theorem RE_or : RE (mOr ma mb v S) P E ↔ RE (ma v S) (fun a S' => RO (truthD a) fun k => RI k (P a S') (RE (mb v S') P E)) E := by
  unfold mOr; simp only [RE_bind, RE_opt, RE_ite, RE_ret]
theorem RE_not : RE (mNot ma v S) P E ↔ RE (ma v S) (fun a S' => RO (truthD a) fun k => P (.bl (!k)) S') E := by
  unfold mNot; simp only [RE_bind, RE_opt, RE_ret]
theorem RE_andT : RE (mAndT mt mu v S) PB E ↔ RE (mt v S) (fun k S' => RI k (RE (mu v S') PB E) (PB false S')) E := by
  unfold mAndT; simp only [RE_bind, RE_ite, RE_ret]
theorem RE_orT : RE (mOrT mt mu v S) PB E ↔ RE (mt v S) (fun k S' => RI k (PB true S') (RE (mu v S') PB E)) E := by
  unfold mOrT; simp only [RE_bind, RE_ite, RE_ret]
theorem RE_notT : RE (mNotT mt v S) PB E ↔ RE (mt v S) (fun k S' => PB (!k) S') E := by
  unfold mNotT; simp only [RE_bind, RE_ret]
theorem RE_if {x y : M α} : RE (mIf mt x y v S) Q E ↔ RE (mt v S) (fun k S' => RI k (RE (x v S') Q E) (RE (y v S') Q E)) E := by
  unfold mIf; simp only [RE_bind, RE_ite]
theorem RE_ch {f g : D → D → Option Bool} : RE (mCh f g ma mb mc v S) PB E ↔ RE (ma v S) (fun a S1 => RE (mb v S1) (fun b S2 => RO (f a b) fun k => RI k (RE (mc v S2) (fun c S3 => RO (g b c) fun k => PB k S3) E) (PB false S2)) E) E := by
  unfold mCh; simp only [RE_bind, RE_opt, RE_ite, RE_ret]
theorem RE_nil : RE (mNil v S) PL E ↔ PL [] S := Iff.rfl
theorem RE_cons : RE (mCons ma ms v S) PL E ↔ RE (ma v S) (fun a S1 => RE (ms v S1) (fun as S2 => PL (a :: as) S2) E) E := by
  unfold mCons; simp only [RE_bind, RE_ret]
theorem RE_str : RE (mStr ma ms v S) PL E ↔ RE (ma v S) (fun a S1 => RO (itemsD a) fun as => RE (ms v S1) (fun bs S2 => PL (as ++ bs) S2) E) E := by
  unfold mStr; simp only [RE_bind, RE_opt, RE_ret]
theorem RE_iteP {p : Prop} [Decidable p] {x : M α} : RE ((if p then x else mOpt none) v S) Q E ↔ p ∧ RE (x v S) Q E := by
  by_cases h : p
  · rw [if_pos h]; exact ⟨fun w => ⟨h, w⟩, fun w => w.2⟩
  · rw [if_neg h]; exact ⟨fun w => by simp [mOpt, RE] at w, fun w => absurd w.1 h⟩
theorem RE_tup : RE (mTup ms v S) P E ↔ RE (ms v S) (fun ds S' => ds.length ≤ sizeLine ∧ P (.tup ds) S') E := by
  unfold mTup; simp only [RE_bind, RE_iteP, RE_ret]
theorem RE_lst : RE (mLst ms v S) P E ↔ RE (ms v S) (fun ds S' => ds.length ≤ sizeLine ∧ P (.lst ds) S') E := by
  unfold mLst; simp only [RE_bind, RE_iteP, RE_ret]
theorem RE_LN : RE (mLN ms v S) PL E ↔ RE (ms v S) (fun ds S' => ds.length ≤ sizeLine ∧ PL ds S') E := by
  unfold mLN; simp only [RE_bind, RE_iteP, RE_ret]
theorem RE_ls : RE (mLs ms v S) P E ↔ RE (ms v S) (fun ds S' => P (.lst ds) S') E := by
  unfold mLs; simp only [RE_bind, RE_ret]
theorem RE_obL {PO : Ob → Sto → Prop} : RE (mObL ms v S) PO E ↔ RE (ms v S) (fun ds S' => PO (.lst ds) S') E := by
  unfold mObL; simp only [RE_bind, RE_ret]
theorem RE_isi {t : TyN} : RE (mIsi t ma v S) P E ↔ RE (ma v S) (fun a S' => RO (isiD t a) fun k => P (.bl k) S') E := by
  unfold mIsi; simp only [RE_bind, RE_opt]
  constructor <;> intro h <;> refine h.use fun a S1 h => ?_
  · obtain ⟨d, e, h⟩ := h
    obtain ⟨k, e1, e2⟩ := Option.map_eq_some_iff.mp e
    exact ⟨k, e1, by subst e2; exact h⟩
  · obtain ⟨d, e, h⟩ := h
    exact ⟨_, by rw [e]; rfl, h⟩
theorem RE_call {g : List D → Option D} : RE (mCall g ms v S) P E ↔ RE (ms v S) (fun ds S' => RO (g ds) fun d => P d S') E := by
  unfold mCall; simp only [RE_bind, RE_opt]
theorem RE_fn {sem : FSem} {dfl : List D} : RE (mFn sem dfl ms v S) P E ↔ RE (ms v S) (fun ds S' => RE (sem (ds ++ dfl) v.κs S') P E) E := by
  unfold mFn; simp only [RE_bind]
theorem RE_fnK {sem : FSem} : RE (mFnK sem ms mk v S) P E ↔ RE (ms v S) (fun ds S' => RE (mk v S') (fun es S' => RE (sem (ds ++ es) v.κs S') P E) E) E := by
  unfold mFnK; simp only [RE_bind]
theorem RE_ixS : RE (mIxS ma mb v S) P E ↔ RE (ma v S) (fun a S1 => RE (mb v S1) (fun b S2 => RO (ixS S2 a b) fun d => P d S2) E) E := by
  unfold mIxS; simp only [RE_bind]
  constructor <;> intro h <;> refine h.use fun a S1 h => h.use fun b S2 h => ?_
  · rcases e : ixS S2 a b with _ | d <;> rw [e] at h <;> simp [RE] at h
    exact ⟨d, rfl, h⟩
  · obtain ⟨d, e, h⟩ := h
    rw [e]; exact h
theorem RE_sl {ml mh : M (Option Int)} : RE (mSl ma ml mh v S) P E ↔ RE (ma v S) (fun a S1 => RE (ml v S1) (fun l S2 => RE (mh v S2) (fun h S3 => RO (cutD a l h) fun d => P d S3) E) E) E := by
  unfold mSl; simp only [RE_bind, RE_opt]
theorem RE_some {PO : Option Int → Sto → Prop} : RE (mSome ma v S) PO E ↔ RE (ma v S) (fun a S' => RO (intO a) fun n => PO (some n) S') E := by
  unfold mSome; simp only [RE_bind, RE_opt]
  constructor <;> intro h <;> refine h.use fun a S1 h => ?_
  · obtain ⟨d, e, h⟩ := h
    obtain ⟨k, e1, e2⟩ := Option.map_eq_some_iff.mp e
    exact ⟨k, e1, by subst e2; exact h⟩
  · obtain ⟨d, e, h⟩ := h
    exact ⟨_, by rw [e]; rfl, h⟩
theorem RE_neg : RE (mNeg ma v S) P E ↔ RE (ma v S) (fun a S' => RO (negD a) fun d => P d S') E := by
  unfold mNeg; simp only [RE_bind, RE_opt]
theorem RE_mt {ok : D → Bool} {f : D → List D → Option D} : RE (mMt ok f ma ms v S) P E ↔ RE (ma v S) (fun a S1 => ok a = true ∧ RE (ms v S1) (fun ds S2 => RO (f a ds) fun d => P d S2) E) E := by
  unfold mMt; simp only [RE_bind]
  constructor <;> intro h <;> refine h.use fun a S1 h => ?_
  · by_cases q : ok a = true
    · rw [if_pos q] at h
      simp only [RE_bind, RE_opt] at h
      exact ⟨q, h⟩
    · rw [if_neg q] at h
      simp [mOpt, RE] at h
  · obtain ⟨q, h⟩ := h
    rw [if_pos q]
    simp only [RE_bind, RE_opt]
    exact h
theorem RE_it : RE (mIt ma v S) PL E ↔ RE (ma v S) (fun a S' => RO (iterD a) fun ds => PL ds S') E := by
  unfold mIt; simp only [RE_bind, RE_opt]
theorem RE_rng1 : RE (mRng1 ma v S) PL E ↔ RE (ma v S) (fun a S' => RO (rng1D a) fun ds => PL ds S') E := by
  unfold mRng1; simp only [RE_bind, RE_opt]
theorem RE_rng2 : RE (mRng2 ma mb v S) PL E ↔ RE (ma v S) (fun a S1 => RE (mb v S1) (fun b S2 => RO (rng2D a b) fun ds => PL ds S2) E) E := by
  unfold mRng2; simp only [RE_bind, RE_opt]
theorem RE_zip : RE (mZip ma mb v S) PL E ↔ RE (ma v S) (fun a S1 => RE (mb v S1) (fun b S2 => RO (zipD a b) fun ds => PL ds S2) E) E := by
  unfold mZip; simp only [RE_bind, RE_opt]
theorem RE_enum : RE (mEnum ma v S) PL E ↔ RE (ma v S) (fun a S' => RO (enumD a) fun ds => PL ds S') E := by
  unfold mEnum; simp only [RE_bind, RE_opt]
theorem RE_enz : RE (mEnZ ma mb v S) PL E ↔ RE (ma v S) (fun a S1 => RE (mb v S1) (fun b S2 => RO ((zipD a b).map enumL) fun ds => PL ds S2) E) E := by
  unfold mEnZ; simp only [RE_bind, RE_opt]
theorem RE_sl0 {PS : List Sl → Sto → Prop} : RE (mSl0 v S) PS E ↔ PS [] S := Iff.rfl
theorem RE_slV {PS : List Sl → Sto → Prop} {m : M (List Sl)} : RE (mSlV ma m v S) PS E ↔ RE (ma v S) (fun d S1 => d.isK = false ∧ RE (m v S1) (fun ls S2 => PS (.val d :: ls) S2) E) E := by
  unfold mSlV; simp only [RE_bind]
  constructor <;> intro h <;> refine h.use fun a S1 h => ?_
  · cases q : a.isK
    · rw [q] at h
      simp only [Bool.false_eq_true, if_false, RE_bind, RE_ret] at h
      exact ⟨rfl, h⟩
    · rw [q] at h
      simp [mOpt, RE] at h
  · obtain ⟨q, h⟩ := h
    rw [q]
    simp only [Bool.false_eq_true, if_false, RE_bind, RE_ret]
    exact h
theorem RE_slO {PS : List Sl → Sto → Prop} {m : M (List Sl)} {mo : M Ob} : RE (mSlO mo m v S) PS E ↔ RE (mo v S) (fun o S1 => RE (m v S1) (fun ls S2 => PS (.own o :: ls) S2) E) E := by
  unfold mSlO; simp only [RE_bind, RE_ret]
end
section
variable {v : Ev} {S : Sto} {ma mb md mi : M D} {mt : M Bool} {ms : M (List D)} {i : Nat} {m1 m2 mz : MS} {N : List (Option Sl) → Sto → Prop} {T : D → Sto → Prop} {B C : List (Option Sl) → Sto → Prop} {E : Exc → List (Option Sl) → Sto → Prop} {P : D → Sto → Prop} {F : Exc → Sto → Prop}
theorem RE_semOf {n : Nat} {ds : List D} {κs : List Sem} : RE (semOf n m1 ds κs S) P F ↔ RS (m1 ⟨startSl n ds, κs⟩ S) (fun _ S' => P .non S') P (fun _ _ => False) (fun _ _ => False) (fun x _ S' => F x S') := by
  unfold semOf
  rcases m1 ⟨startSl n ds, κs⟩ S with _ | (_ | _ | _ | _ | _) <;> simp [RE, RS]
theorem RS_seq : RS (mSeq m1 m2 v S) N T B C E ↔ RS (m1 v S) (fun sl S' => RS (m2 ⟨sl, v.κs⟩ S') N T B C E) T B C E := by
  unfold mSeq
  rcases m1 v S with _ | (_ | _ | _ | _ | _) <;> simp [RS]
theorem RS_skip : RS (mSkip v S) N T B C E ↔ N v.sl S := Iff.rfl
theorem RS_brk : RS (mBrk v S) N T B C E ↔ B v.sl S := Iff.rfl
theorem RS_cnt : RS (mCnt v S) N T B C E ↔ C v.sl S := Iff.rfl
theorem RS_stuck : RS (mStuck v S) N T B C E ↔ False := Iff.rfl
theorem RS_then {α : Type} {m : M α} {k : α → MS} : RS (mThen m k v S) N T B C E ↔ RE (m v S) (fun a S' => RS (k a v S') N T B C E) (fun x S' => E x v.sl S') := by
  unfold mThen
  rcases m v S with _ | (_ | _) <;> simp [RE, RS]
theorem RS_nx {g : List (Option Sl) → Option (List (Option Sl))} : RS (mNx g v S) N T B C E ↔ RO (g v.sl) fun sl => N sl S := by
  unfold mNx
  rcases g v.sl with _ | _ <;> simp [RS, RO]
theorem RS_rtn : RS (mRtn ma v S) N T B C E ↔ RE (ma v S) T (fun x S' => E x v.sl S') := by
  unfold mRtn; rw [RS_then]; exact Iff.rfl
theorem RS_rtnO {mo : M Ob} : RS (mRtnO mo v S) N T B C E ↔ RE (mo v S) (fun o S' => T (.obj S'.length) (S' ++ [o])) (fun x S' => E x v.sl S') := by
  unfold mRtnO; rw [RS_then]; exact Iff.rfl
theorem RS_drop : RS (mDrop ma v S) N T B C E ↔ RE (ma v S) (fun _ S' => N v.sl S') (fun x S' => E x v.sl S') := by
  unfold mDrop; simp only [RS_then, RS_skip]
theorem RS_ite {k : Bool} : RS ((if k = true then m1 else m2) v S) N T B C E ↔ RI k (RS (m1 v S) N T B C E) (RS (m2 v S) N T B C E) := by
  cases k <;> simp [RI]
theorem RS_ifs : RS (mIfS mt m1 m2 v S) N T B C E ↔ RE (mt v S) (fun k S' => RI k (RS (m1 v S') N T B C E) (RS (m2 v S') N T B C E)) (fun x S' => E x v.sl S') := by
  unfold mIfS; simp only [RS_then, RS_ite]
theorem RS_set : RS (mSet i ma v S) N T B C E ↔ RE (ma v S) (fun d S' => N (v.sl.set i (some (.val d))) S') (fun x S' => E x v.sl S') := by
  unfold mSet; simp only [RS_then, RS_nx, RO_some]
theorem RS_setO {mo : M Ob} : RS (mSetO i mo v S) N T B C E ↔ RE (mo v S) (fun d S' => N (v.sl.set i (some (.own d))) S') (fun x S' => E x v.sl S') := by
  unfold mSetO; simp only [RS_then, RS_nx, RO_some]
theorem RS_setT {t : Tg} : RS (mSetT t ma v S) N T B C E ↔ RE (ma v S) (fun d S' => RO (bindT t d v.sl) fun sl => N sl S') (fun x S' => E x v.sl S') := by
  unfold mSetT; simp only [RS_then, RS_nx]
theorem RS_par {is : List Nat} {m : M (List Sl)} : RS (mPar is m v S) N T B C E ↔ RE (m v S) (fun ls S' => RO (putAll is ls v.sl) fun sl => N sl S') (fun x S' => E x v.sl S') := by
  unfold mPar; simp only [RS_then, RS_nx]
theorem RS_frz : RS (mFrz i v S) N T B C E ↔ RO (frzAt v.sl i) fun sl => N sl S := by
  rw [frzAt_eq]
  unfold mFrz
  rcases v.sl[i]? with _ | (_ | (_ | o | _)) <;> simp [RS, RO]
  cases o.d <;> simp [RS, RO]
theorem RS_app : RS (mApp i md v S) N T B C E ↔ RO (ownAt v.sl i) fun xs => RE (md v S) (fun d S' => xs.length < sizeLine ∧ N (v.sl.set i (some (.own (.lst (xs ++ [d]))))) S') (fun x S' => E x v.sl S') := by
  rw [ownAt_eq]
  unfold mApp mHasL
  rcases hs : v.sl[i]? with _ | (_ | (_ | (o | _ | _) | _)) <;> try (simp [RS, RO]; done)
  dsimp only
  rw [RO_some]
  have e : ∀ (d : D) (S' : Sto), RS (appN i d v S') N T B C E ↔ o.length < sizeLine ∧ N (v.sl.set i (some (.own (.lst (o ++ [d]))))) S' := by
    intro d S'
    unfold appN
    rw [hs]
    by_cases h : o.length < sizeLine <;> simp [h, RS]
  refine RS_then.trans ?_
  simp only [e]
/-- where x[k] = d leads -/
def putR (sl : List (Option Sl)) (i : Nat) (k d : D) (S : Sto) (N : List (Option Sl) → Sto → Prop) : Prop := match sl[i]? with
  | some (some (.own o)) => RO (setOb o k d) fun o' => N (sl.set i (some (.own o'))) S
  | some (some (.val (.obj j))) => RO S[j]? fun o => RO (setOb o k d) fun o' => N sl (S.set j o')
  | _ => False
theorem RS_putN {k d : D} : RS (putN i k d v S) N T B C E ↔ putR v.sl i k d S N := by
  unfold putN putR
  rcases v.sl[i]? with _ | (_ | (d' | o | _)) <;> try (simp [RS]; done)
  · cases d' <;> try (simp [RS]; done)
    rename_i j
    dsimp only
    rcases S[j]? with _ | o <;> simp [RS, RO]
    rcases setOb o k d with _ | o' <;> simp
  · dsimp only
    rcases setOb o k d with _ | o' <;> simp [RS, RO]
theorem RS_put : RS (mPut i mi md v S) N T B C E ↔ RE (md v S) (fun d S1 => hasAt v.sl i = true ∧ RE (mi v S1) (fun k S2 => putR v.sl i k d S2 N) (fun x S' => E x v.sl S')) (fun x S' => E x v.sl S') := by
  unfold mPut
  rw [RS_then, hasAt_eq]
  have e : ∀ (d : D) (S1 : Sto), RS (mHas i (mThen mi fun k => putN i k d) v S1) N T B C E ↔ (match v.sl[i]? with
      | some (some _) => true
      | _ => false) = true ∧ RE (mi v S1) (fun k S2 => putR v.sl i k d S2 N) (fun x S' => E x v.sl S') := by
    intro d S1
    unfold mHas
    rcases v.sl[i]? with _ | (_ | s) <;> try (simp [RS]; done)
    show RS (mThen mi (fun k => putN i k d) v S1) N T B C E ↔ _
    rw [RS_then]
    simp only [RS_putN, true_and]
  simp only [e]
end
structure WE {α : Type} (r : Option (R α)) (Q : α → Sto → Prop) (E : Exc → Sto → Prop) [Mk Q] [Mk E] : Prop where
  raw : RE r Q E
structure WS (r : Option FlR) (N : List (Option Sl) → Sto → Prop) (T : D → Sto → Prop) (B C : List (Option Sl) → Sto → Prop) (E : Exc → List (Option Sl) → Sto → Prop) [Mk N] [Mk T] [Mk B] [Mk C] [Mk E] : Prop where
  raw : RS r N T B C E
def WO {α : Type} (o : Option α) (Q : α → Prop) [Mk Q] : Prop := RO o Q
structure WI (k : Bool) (A B : Prop) [Mk A] [Mk B] : Prop where
  raw : RI k A B
theorem WE_eq {α : Type} {r : Option (R α)} {Q : α → Sto → Prop} {E : Exc → Sto → Prop} : WE r Q E = RE r Q E := propext ⟨fun h => h.raw, fun h => ⟨h⟩⟩
theorem WS_eq {r : Option FlR} {N : List (Option Sl) → Sto → Prop} {T : D → Sto → Prop} {B C : List (Option Sl) → Sto → Prop} {E : Exc → List (Option Sl) → Sto → Prop} : WS r N T B C E = RS r N T B C E := propext ⟨fun h => h.raw, fun h => ⟨h⟩⟩
theorem WO_eq {α : Type} {o : Option α} {Q : α → Prop} : WO o Q = RO o Q := propext ⟨fun h => h, fun h => h⟩
theorem WI_eq {k : Bool} {A B : Prop} : WI k A B = RI k A B := propext ⟨fun h => h.raw, fun h => ⟨h⟩⟩
section
variable {α β : Type} {Q Q' : α → Sto → Prop} {E E' : Exc → Sto → Prop} {r r' : Option (R α)}
@[simp] theorem WI_true {A B : Prop} : WI true A B ↔ A := by simp -dsimp only [WE_eq, WS_eq, WO_eq, WI_eq] <;> exact RI_true
@[simp] theorem WI_false {A B : Prop} : WI false A B ↔ B := by simp -dsimp only [WE_eq, WS_eq, WO_eq, WI_eq] <;> exact RI_false
theorem WI.of {k : Bool} {A B : Prop} (h : k = true → A) (h' : k = false → B) : WI k A B := by
  cases k
  · exact WI_false.mpr (h' rfl)
  · exact WI_true.mpr (h rfl)
theorem WI.dec {p : Prop} [Decidable p] {A B : Prop} (h : p → A) (h' : ¬ p → B) : WI (decide p) A B := WI.of (fun e => h (of_decide_eq_true e)) fun e => h' (of_decide_eq_false e)
@[simp] theorem WO_some {a : α} {P : α → Prop} : WO (some a) P ↔ P a := ⟨fun ⟨_, e, h⟩ => by cases e; exact h, fun h => ⟨a, rfl, h⟩⟩
@[simp] theorem WO_none {P : α → Prop} : WO (none : Option α) P ↔ False := ⟨fun ⟨_, e, _⟩ => (by cases e), fun h => h.elim⟩
theorem WO.use {o : Option α} {a : α} {P : α → Prop} (e : o = some a) (h : P a) : WO o P := ⟨a, e, h⟩
@[simp] theorem WE_ok {a : α} {S : Sto} : WE (some (.ok a S)) Q E ↔ Q a S := by rw [WE_eq]; exact Iff.rfl
theorem WE.imp (h : WE r Q E) (f : ∀ a S, Q a S → Q' a S) (g : ∀ x S, E x S → E' x S) : WE r Q' E' := by
  rw [WE_eq] at h ⊢
  unfold RE at h ⊢
  split at h
  · exact f _ _ h
  · exact g _ _ h
  · exact h
theorem WE.use (h : WE r Q E) (f : ∀ a S, Q a S → Q' a S) : WE r Q' E := h.imp f fun _ _ h => h
theorem WE.get (h : WE r Q fun _ _ => False) : ∃ a S, r = some (.ok a S) ∧ Q a S := by
  rw [WE_eq] at h
  unfold RE at h
  split at h
  · exact ⟨_, _, rfl, h⟩
  · exact h.elim
  · exact h.elim
theorem WE.of {a : α} {S : Sto} (e : r = some (.ok a S)) (h : Q a S) : WE r Q E := by subst e; exact WE_ok.mpr h
theorem WE.eq {a : α} {S : Sto} (h : WE r (fun b S' => b = a ∧ S' = S) fun _ _ => False) : r = some (.ok a S) := by
  obtain ⟨b, S', e, rfl, rfl⟩ := h.get
  exact e
end
section
variable {r r' : Option FlR} {N N' : List (Option Sl) → Sto → Prop} {T T' : D → Sto → Prop} {B B' C C' : List (Option Sl) → Sto → Prop} {E E' : Exc → List (Option Sl) → Sto → Prop}
theorem WS.imp (h : WS r N T B C E) (f : ∀ a S, N a S → N' a S) (f2 : ∀ a S, T a S → T' a S) (f3 : ∀ a S, B a S → B' a S) (f4 : ∀ a S, C a S → C' a S) (f5 : ∀ x a S, E x a S → E' x a S) : WS r N' T' B' C' E' := by
  rw [WS_eq] at h ⊢
  unfold RS at h ⊢
  split at h
  · exact f _ _ h
  · exact f2 _ _ h
  · exact f3 _ _ h
  · exact f4 _ _ h
  · exact f5 _ _ _ h
  · exact h
theorem WS.use (h : WS r N T B C E) (f : ∀ a S, N a S → N' a S) : WS r N' T B C E := h.imp f (fun _ _ h => h) (fun _ _ h => h) (fun _ _ h => h) (fun _ _ _ h => h)
end
def putW (sl : List (Option Sl)) (i : Nat) (k d : D) (S : Sto) (N : List (Option Sl) → Sto → Prop) [Mk N] : Prop := putR sl i k d S N
section
variable {α β : Type} {sv : List (Option Sl)} {κs : List Sem} {S : Sto} {a : α} {Q : α → Sto → Prop} {P : D → Sto → Prop} {PB : Bool → Sto → Prop} {PL : List D → Sto → Prop} {E : Exc → Sto → Prop} {ma mb mc : M D} {mt mu : M Bool} {ms mk : M (List D)} {i : Nat}
@[simp ↓] theorem WE_ret : WE (mRet a ⟨sv, κs⟩ S) Q E ↔ Q a S := by simp -dsimp only [WE_eq, WS_eq, WO_eq, WI_eq] <;> exact RE_ret
@[simp ↓] theorem WE_bind {m : M β} {f : β → M α} : WE (mBind m f ⟨sv, κs⟩ S) Q E ↔ WE (m ⟨sv, κs⟩ S) (fun b S' => WE (f b ⟨sv, κs⟩ S') Q E) E := by simp -dsimp only [WE_eq, WS_eq, WO_eq, WI_eq] <;> exact RE_bind
@[simp ↓] theorem WE_opt {o : Option α} : WE (mOpt o ⟨sv, κs⟩ S) Q E ↔ WO o fun a => Q a S := by simp -dsimp only [WE_eq, WS_eq, WO_eq, WI_eq] <;> exact RE_opt
@[simp ↓] theorem WE_var : WE (mVar i ⟨sv, κs⟩ S) P E ↔ WO (valAt sv i) fun d => P d S := by simp -dsimp only [WE_eq, WS_eq, WO_eq, WI_eq] <;> exact RE_var
@[simp ↓] theorem WE_bor : WE (mBor i ⟨sv, κs⟩ S) P E ↔ WO (borAt sv i) fun d => P d S := by simp -dsimp only [WE_eq, WS_eq, WO_eq, WI_eq] <;> exact RE_bor
@[simp ↓] theorem WE_op2 {g : D → D → Option D} : WE (mOp2 g ma mb ⟨sv, κs⟩ S) P E ↔ WE (ma ⟨sv, κs⟩ S) (fun a S1 => WE (mb ⟨sv, κs⟩ S1) (fun b S2 => WO (g a b) fun d => P d S2) E) E := by simp -dsimp only [WE_eq, WS_eq, WO_eq, WI_eq] <;> exact RE_op2
@[simp ↓] theorem WE_cmp {g : D → D → Option Bool} : WE (mCmp g ma mb ⟨sv, κs⟩ S) P E ↔ WE (ma ⟨sv, κs⟩ S) (fun a S1 => WE (mb ⟨sv, κs⟩ S1) (fun b S2 => WO (g a b) fun d => P (.bl d) S2) E) E := by simp -dsimp only [WE_eq, WS_eq, WO_eq, WI_eq] <;> exact RE_cmp
@[simp ↓] theorem WE_cmpT {g : D → D → Option Bool} : WE (mCmpT g ma mb ⟨sv, κs⟩ S) PB E ↔ WE (ma ⟨sv, κs⟩ S) (fun a S1 => WE (mb ⟨sv, κs⟩ S1) (fun b S2 => WO (g a b) fun d => PB d S2) E) E := by simp -dsimp only [WE_eq, WS_eq, WO_eq, WI_eq] <;> exact RE_cmpT
@[simp ↓] theorem WE_isN {k : Bool} : WE (mIsN k ma ⟨sv, κs⟩ S) P E ↔ WE (ma ⟨sv, κs⟩ S) (fun a S' => P (.bl (a.isNon == k)) S') E := by simp -dsimp only [WE_eq, WS_eq, WO_eq, WI_eq] <;> exact RE_isN
@[simp ↓] theorem WE_isNT {k : Bool} : WE (mIsNT k ma ⟨sv, κs⟩ S) PB E ↔ WE (ma ⟨sv, κs⟩ S) (fun a S' => PB (a.isNon == k) S') E := by simp -dsimp only [WE_eq, WS_eq, WO_eq, WI_eq] <;> exact RE_isNT
theorem WE_ite {k : Bool} {x y : M α} : WE ((if k = true then x else y) ⟨sv, κs⟩ S) Q E ↔ WI k (WE (x ⟨sv, κs⟩ S) Q E) (WE (y ⟨sv, κs⟩ S) Q E) := by simp -dsimp only [WE_eq, WS_eq, WO_eq, WI_eq] <;> exact RE_ite
@[simp ↓] theorem WE_tru : WE (mTru ma ⟨sv, κs⟩ S) PB E ↔ WE (ma ⟨sv, κs⟩ S) (fun a S' => WO (truthD a) fun k => PB k S') E := by simp -dsimp only [WE_eq, WS_eq, WO_eq, WI_eq] <;> exact RE_tru
@[simp ↓] theorem WE_and : WE (mAnd ma mb ⟨sv, κs⟩ S) P E ↔ WE (ma ⟨sv, κs⟩ S) (fun a S' => WO (truthD a) fun k => WI k (WE (mb ⟨sv, κs⟩ S') P E) (P a S')) E := by simp -dsimp only [WE_eq, WS_eq, WO_eq, WI_eq] <;> exact RE_and
@[simp ↓] theorem WE_or : WE (mOr ma mb ⟨sv, κs⟩ S) P E ↔ WE (ma ⟨sv, κs⟩ S) (fun a S' => WO (truthD a) fun k => WI k (P a S') (WE (mb ⟨sv, κs⟩ S') P E)) E := by simp -dsimp only [WE_eq, WS_eq, WO_eq, WI_eq] <;> exact RE_or
@[simp ↓] theorem WE_not : WE (mNot ma ⟨sv, κs⟩ S) P E ↔ WE (ma ⟨sv, κs⟩ S) (fun a S' => WO (truthD a) fun k => P (.bl (!k)) S') E := by simp -dsimp only [WE_eq, WS_eq, WO_eq, WI_eq] <;> exact RE_not
@[simp ↓] theorem WE_andT : WE (mAndT mt mu ⟨sv, κs⟩ S) PB E ↔ WE (mt ⟨sv, κs⟩ S) (fun k S' => WI k (WE (mu ⟨sv, κs⟩ S') PB E) (PB false S')) E := by simp -dsimp only [WE_eq, WS_eq, WO_eq, WI_eq] <;> exact RE_andT
@[simp ↓] theorem WE_orT : WE (mOrT mt mu ⟨sv, κs⟩ S) PB E ↔ WE (mt ⟨sv, κs⟩ S) (fun k S' => WI k (PB true S') (WE (mu ⟨sv, κs⟩ S') PB E)) E := by simp -dsimp only [WE_eq, WS_eq, WO_eq, WI_eq] <;> exact RE_orT
@[simp ↓] theorem WE_notT : WE (mNotT mt ⟨sv, κs⟩ S) PB E ↔ WE (mt ⟨sv, κs⟩ S) (fun k S' => PB (!k) S') E := by simp -dsimp only [WE_eq, WS_eq, WO_eq, WI_eq] <;> exact RE_notT
@[simp ↓] theorem WE_if {x y : M α} : WE (mIf mt x y ⟨sv, κs⟩ S) Q E ↔ WE (mt ⟨sv, κs⟩ S) (fun k S' => WI k (WE (x ⟨sv, κs⟩ S') Q E) (WE (y ⟨sv, κs⟩ S') Q E)) E := by simp -dsimp only [WE_eq, WS_eq, WO_eq, WI_eq] <;> exact RE_if
@[simp ↓] theorem WE_ch {f g : D → D → Option Bool} : WE (mCh f g ma mb mc ⟨sv, κs⟩ S) PB E ↔ WE (ma ⟨sv, κs⟩ S) (fun a S1 => WE (mb ⟨sv, κs⟩ S1) (fun b S2 => WO (f a b) fun k => WI k (WE (mc ⟨sv, κs⟩ S2) (fun c S3 => WO (g b c) fun k => PB k S3) E) (PB false S2)) E) E := by simp -dsimp only [WE_eq, WS_eq, WO_eq, WI_eq] <;> exact RE_ch
@[simp ↓] theorem WE_nil : WE (mNil ⟨sv, κs⟩ S) PL E ↔ PL [] S := by simp -dsimp only [WE_eq, WS_eq, WO_eq, WI_eq] <;> exact RE_nil
@[simp ↓] theorem WE_cons : WE (mCons ma ms ⟨sv, κs⟩ S) PL E ↔ WE (ma ⟨sv, κs⟩ S) (fun a S1 => WE (ms ⟨sv, κs⟩ S1) (fun as S2 => PL (a :: as) S2) E) E := by simp -dsimp only [WE_eq, WS_eq, WO_eq, WI_eq] <;> exact RE_cons
@[simp ↓] theorem WE_str : WE (mStr ma ms ⟨sv, κs⟩ S) PL E ↔ WE (ma ⟨sv, κs⟩ S) (fun a S1 => WO (itemsD a) fun as => WE (ms ⟨sv, κs⟩ S1) (fun bs S2 => PL (as ++ bs) S2) E) E := by simp -dsimp only [WE_eq, WS_eq, WO_eq, WI_eq] <;> exact RE_str
@[simp ↓] theorem WE_tup : WE (mTup ms ⟨sv, κs⟩ S) P E ↔ WE (ms ⟨sv, κs⟩ S) (fun ds S' => ds.length ≤ sizeLine ∧ P (.tup ds) S') E := by simp -dsimp only [WE_eq, WS_eq, WO_eq, WI_eq] <;> exact RE_tup
@[simp ↓] theorem WE_lst : WE (mLst ms ⟨sv, κs⟩ S) P E ↔ WE (ms ⟨sv, κs⟩ S) (fun ds S' => ds.length ≤ sizeLine ∧ P (.lst ds) S') E := by simp -dsimp only [WE_eq, WS_eq, WO_eq, WI_eq] <;> exact RE_lst
@[simp ↓] theorem WE_LN : WE (mLN ms ⟨sv, κs⟩ S) PL E ↔ WE (ms ⟨sv, κs⟩ S) (fun ds S' => ds.length ≤ sizeLine ∧ PL ds S') E := by simp -dsimp only [WE_eq, WS_eq, WO_eq, WI_eq] <;> exact RE_LN
@[simp ↓] theorem WE_ls : WE (mLs ms ⟨sv, κs⟩ S) P E ↔ WE (ms ⟨sv, κs⟩ S) (fun ds S' => P (.lst ds) S') E := by simp -dsimp only [WE_eq, WS_eq, WO_eq, WI_eq] <;> exact RE_ls
@[simp ↓] theorem WE_obL {PO : Ob → Sto → Prop} : WE (mObL ms ⟨sv, κs⟩ S) PO E ↔ WE (ms ⟨sv, κs⟩ S) (fun ds S' => PO (.lst ds) S') E := by simp -dsimp only [WE_eq, WS_eq, WO_eq, WI_eq] <;> exact RE_obL
@[simp ↓] theorem WE_isi {t : TyN} : WE (mIsi t ma ⟨sv, κs⟩ S) P E ↔ WE (ma ⟨sv, κs⟩ S) (fun a S' => WO (isiD t a) fun k => P (.bl k) S') E := by simp -dsimp only [WE_eq, WS_eq, WO_eq, WI_eq] <;> exact RE_isi
@[simp ↓] theorem WE_call {g : List D → Option D} : WE (mCall g ms ⟨sv, κs⟩ S) P E ↔ WE (ms ⟨sv, κs⟩ S) (fun ds S' => WO (g ds) fun d => P d S') E := by simp -dsimp only [WE_eq, WS_eq, WO_eq, WI_eq] <;> exact RE_call
@[simp ↓] theorem WE_fn {sem : FSem} {dfl : List D} : WE (mFn sem dfl ms ⟨sv, κs⟩ S) P E ↔ WE (ms ⟨sv, κs⟩ S) (fun ds S' => WE (sem (ds ++ dfl) κs S') P E) E := by simp -dsimp only [WE_eq, WS_eq, WO_eq, WI_eq] <;> exact RE_fn
@[simp ↓] theorem WE_fnK {sem : FSem} : WE (mFnK sem ms mk ⟨sv, κs⟩ S) P E ↔ WE (ms ⟨sv, κs⟩ S) (fun ds S' => WE (mk ⟨sv, κs⟩ S') (fun es S' => WE (sem (ds ++ es) κs S') P E) E) E := by simp -dsimp only [WE_eq, WS_eq, WO_eq, WI_eq] <;> exact RE_fnK
@[simp ↓] theorem WE_ixS : WE (mIxS ma mb ⟨sv, κs⟩ S) P E ↔ WE (ma ⟨sv, κs⟩ S) (fun a S1 => WE (mb ⟨sv, κs⟩ S1) (fun b S2 => WO (ixS S2 a b) fun d => P d S2) E) E := by simp -dsimp only [WE_eq, WS_eq, WO_eq, WI_eq] <;> exact RE_ixS
@[simp ↓] theorem WE_sl {ml mh : M (Option Int)} : WE (mSl ma ml mh ⟨sv, κs⟩ S) P E ↔ WE (ma ⟨sv, κs⟩ S) (fun a S1 => WE (ml ⟨sv, κs⟩ S1) (fun l S2 => WE (mh ⟨sv, κs⟩ S2) (fun h S3 => WO (cutD a l h) fun d => P d S3) E) E) E := by simp -dsimp only [WE_eq, WS_eq, WO_eq, WI_eq] <;> exact RE_sl
@[simp ↓] theorem WE_some {PO : Option Int → Sto → Prop} : WE (mSome ma ⟨sv, κs⟩ S) PO E ↔ WE (ma ⟨sv, κs⟩ S) (fun a S' => WO (intO a) fun n => PO (some n) S') E := by simp -dsimp only [WE_eq, WS_eq, WO_eq, WI_eq] <;> exact RE_some
@[simp ↓] theorem WE_neg : WE (mNeg ma ⟨sv, κs⟩ S) P E ↔ WE (ma ⟨sv, κs⟩ S) (fun a S' => WO (negD a) fun d => P d S') E := by simp -dsimp only [WE_eq, WS_eq, WO_eq, WI_eq] <;> exact RE_neg
@[simp ↓] theorem WE_mt {ok : D → Bool} {f : D → List D → Option D} : WE (mMt ok f ma ms ⟨sv, κs⟩ S) P E ↔ WE (ma ⟨sv, κs⟩ S) (fun a S1 => ok a = true ∧ WE (ms ⟨sv, κs⟩ S1) (fun ds S2 => WO (f a ds) fun d => P d S2) E) E := by simp -dsimp only [WE_eq, WS_eq, WO_eq, WI_eq] <;> exact RE_mt
@[simp ↓] theorem WE_it : WE (mIt ma ⟨sv, κs⟩ S) PL E ↔ WE (ma ⟨sv, κs⟩ S) (fun a S' => WO (iterD a) fun ds => PL ds S') E := by simp -dsimp only [WE_eq, WS_eq, WO_eq, WI_eq] <;> exact RE_it
@[simp ↓] theorem WE_rng1 : WE (mRng1 ma ⟨sv, κs⟩ S) PL E ↔ WE (ma ⟨sv, κs⟩ S) (fun a S' => WO (rng1D a) fun ds => PL ds S') E := by simp -dsimp only [WE_eq, WS_eq, WO_eq, WI_eq] <;> exact RE_rng1
@[simp ↓] theorem WE_rng2 : WE (mRng2 ma mb ⟨sv, κs⟩ S) PL E ↔ WE (ma ⟨sv, κs⟩ S) (fun a S1 => WE (mb ⟨sv, κs⟩ S1) (fun b S2 => WO (rng2D a b) fun ds => PL ds S2) E) E := by simp -dsimp only [WE_eq, WS_eq, WO_eq, WI_eq] <;> exact RE_rng2
@[simp ↓] theorem WE_zip : WE (mZip ma mb ⟨sv, κs⟩ S) PL E ↔ WE (ma ⟨sv, κs⟩ S) (fun a S1 => WE (mb ⟨sv, κs⟩ S1) (fun b S2 => WO (zipD a b) fun ds => PL ds S2) E) E := by simp -dsimp only [WE_eq, WS_eq, WO_eq, WI_eq] <;> exact RE_zip
@[simp ↓] theorem WE_enum : WE (mEnum ma ⟨sv, κs⟩ S) PL E ↔ WE (ma ⟨sv, κs⟩ S) (fun a S' => WO (enumD a) fun ds => PL ds S') E := by simp -dsimp only [WE_eq, WS_eq, WO_eq, WI_eq] <;> exact RE_enum
@[simp ↓] theorem WE_enz : WE (mEnZ ma mb ⟨sv, κs⟩ S) PL E ↔ WE (ma ⟨sv, κs⟩ S) (fun a S1 => WE (mb ⟨sv, κs⟩ S1) (fun b S2 => WO ((zipD a b).map enumL) fun ds => PL ds S2) E) E := by simp -dsimp only [WE_eq, WS_eq, WO_eq, WI_eq] <;> exact RE_enz
@[simp ↓] theorem WE_sl0 {PS : List Sl → Sto → Prop} : WE (mSl0 ⟨sv, κs⟩ S) PS E ↔ PS [] S := by simp -dsimp only [WE_eq, WS_eq, WO_eq, WI_eq] <;> exact RE_sl0
@[simp ↓] theorem WE_slV {PS : List Sl → Sto → Prop} {m : M (List Sl)} : WE (mSlV ma m ⟨sv, κs⟩ S) PS E ↔ WE (ma ⟨sv, κs⟩ S) (fun d S1 => d.isK = false ∧ WE (m ⟨sv, κs⟩ S1) (fun ls S2 => PS (.val d :: ls) S2) E) E := by simp -dsimp only [WE_eq, WS_eq, WO_eq, WI_eq] <;> exact RE_slV
@[simp ↓] theorem WE_slO {PS : List Sl → Sto → Prop} {m : M (List Sl)} {mo : M Ob} : WE (mSlO mo m ⟨sv, κs⟩ S) PS E ↔ WE (mo ⟨sv, κs⟩ S) (fun o S1 => WE (m ⟨sv, κs⟩ S1) (fun ls S2 => PS (.own o :: ls) S2) E) E := by simp -dsimp only [WE_eq, WS_eq, WO_eq, WI_eq] <;> exact RE_slO
end
section
variable {sv : List (Option Sl)} {κs : List Sem} {S : Sto} {ma mb md mi : M D} {mt : M Bool} {ms : M (List D)} {i : Nat} {m1 m2 mz : MS} {N : List (Option Sl) → Sto → Prop} {T : D → Sto → Prop} {B C : List (Option Sl) → Sto → Prop} {E : Exc → List (Option Sl) → Sto → Prop} {P : D → Sto → Prop} {F : Exc → Sto → Prop}
@[simp ↓] theorem WE_semOf {n : Nat} {ds : List D}  : WE (semOf n m1 ds κs S) P F ↔ WS (m1 ⟨startSl n ds, κs⟩ S) (fun _ S' => P .non S') P (fun _ _ => False) (fun _ _ => False) (fun x _ S' => F x S') := by simp -dsimp only [WE_eq, WS_eq, WO_eq, WI_eq] <;> exact RE_semOf
@[simp ↓] theorem WS_seq : WS (mSeq m1 m2 ⟨sv, κs⟩ S) N T B C E ↔ WS (m1 ⟨sv, κs⟩ S) (fun sl S' => WS (m2 ⟨sl, κs⟩ S') N T B C E) T B C E := by simp -dsimp only [WE_eq, WS_eq, WO_eq, WI_eq] <;> exact RS_seq
@[simp ↓] theorem WS_skip : WS (mSkip ⟨sv, κs⟩ S) N T B C E ↔ N sv S := by simp -dsimp only [WE_eq, WS_eq, WO_eq, WI_eq] <;> exact RS_skip
@[simp ↓] theorem WS_brk : WS (mBrk ⟨sv, κs⟩ S) N T B C E ↔ B sv S := by simp -dsimp only [WE_eq, WS_eq, WO_eq, WI_eq] <;> exact RS_brk
@[simp ↓] theorem WS_cnt : WS (mCnt ⟨sv, κs⟩ S) N T B C E ↔ C sv S := by simp -dsimp only [WE_eq, WS_eq, WO_eq, WI_eq] <;> exact RS_cnt
@[simp ↓] theorem WS_stuck : WS (mStuck ⟨sv, κs⟩ S) N T B C E ↔ False := by simp -dsimp only [WE_eq, WS_eq, WO_eq, WI_eq] <;> exact RS_stuck
@[simp ↓] theorem WS_then {α : Type} {m : M α} {k : α → MS} : WS (mThen m k ⟨sv, κs⟩ S) N T B C E ↔ WE (m ⟨sv, κs⟩ S) (fun a S' => WS (k a ⟨sv, κs⟩ S') N T B C E) (fun x S' => E x sv S') := by simp -dsimp only [WE_eq, WS_eq, WO_eq, WI_eq] <;> exact RS_then
@[simp ↓] theorem WS_nx {g : List (Option Sl) → Option (List (Option Sl))} : WS (mNx g ⟨sv, κs⟩ S) N T B C E ↔ WO (g sv) fun sl => N sl S := by simp -dsimp only [WE_eq, WS_eq, WO_eq, WI_eq] <;> exact RS_nx
@[simp ↓] theorem WS_rtn : WS (mRtn ma ⟨sv, κs⟩ S) N T B C E ↔ WE (ma ⟨sv, κs⟩ S) T (fun x S' => E x sv S') := by simp -dsimp only [WE_eq, WS_eq, WO_eq, WI_eq] <;> exact RS_rtn
@[simp ↓] theorem WS_rtnO {mo : M Ob} : WS (mRtnO mo ⟨sv, κs⟩ S) N T B C E ↔ WE (mo ⟨sv, κs⟩ S) (fun o S' => T (.obj S'.length) (S' ++ [o])) (fun x S' => E x sv S') := by simp -dsimp only [WE_eq, WS_eq, WO_eq, WI_eq] <;> exact RS_rtnO
@[simp ↓] theorem WS_drop : WS (mDrop ma ⟨sv, κs⟩ S) N T B C E ↔ WE (ma ⟨sv, κs⟩ S) (fun _ S' => N sv S') (fun x S' => E x sv S') := by simp -dsimp only [WE_eq, WS_eq, WO_eq, WI_eq] <;> exact RS_drop
theorem WS_ite {k : Bool} : WS ((if k = true then m1 else m2) ⟨sv, κs⟩ S) N T B C E ↔ WI k (WS (m1 ⟨sv, κs⟩ S) N T B C E) (WS (m2 ⟨sv, κs⟩ S) N T B C E) := by simp -dsimp only [WE_eq, WS_eq, WO_eq, WI_eq] <;> exact RS_ite
@[simp ↓] theorem WS_ifs : WS (mIfS mt m1 m2 ⟨sv, κs⟩ S) N T B C E ↔ WE (mt ⟨sv, κs⟩ S) (fun k S' => WI k (WS (m1 ⟨sv, κs⟩ S') N T B C E) (WS (m2 ⟨sv, κs⟩ S') N T B C E)) (fun x S' => E x sv S') := by simp -dsimp only [WE_eq, WS_eq, WO_eq, WI_eq] <;> exact RS_ifs
@[simp ↓] theorem WS_set : WS (mSet i ma ⟨sv, κs⟩ S) N T B C E ↔ WE (ma ⟨sv, κs⟩ S) (fun d S' => N (sv.set i (some (.val d))) S') (fun x S' => E x sv S') := by simp -dsimp only [WE_eq, WS_eq, WO_eq, WI_eq] <;> exact RS_set
@[simp ↓] theorem WS_setO {mo : M Ob} : WS (mSetO i mo ⟨sv, κs⟩ S) N T B C E ↔ WE (mo ⟨sv, κs⟩ S) (fun d S' => N (sv.set i (some (.own d))) S') (fun x S' => E x sv S') := by simp -dsimp only [WE_eq, WS_eq, WO_eq, WI_eq] <;> exact RS_setO
@[simp ↓] theorem WS_setT {t : Tg} : WS (mSetT t ma ⟨sv, κs⟩ S) N T B C E ↔ WE (ma ⟨sv, κs⟩ S) (fun d S' => WO (bindT t d sv) fun sl => N sl S') (fun x S' => E x sv S') := by simp -dsimp only [WE_eq, WS_eq, WO_eq, WI_eq] <;> exact RS_setT
@[simp ↓] theorem WS_par {is : List Nat} {m : M (List Sl)} : WS (mPar is m ⟨sv, κs⟩ S) N T B C E ↔ WE (m ⟨sv, κs⟩ S) (fun ls S' => WO (putAll is ls sv) fun sl => N sl S') (fun x S' => E x sv S') := by simp -dsimp only [WE_eq, WS_eq, WO_eq, WI_eq] <;> exact RS_par
@[simp ↓] theorem WS_frz : WS (mFrz i ⟨sv, κs⟩ S) N T B C E ↔ WO (frzAt sv i) fun sl => N sl S := by simp -dsimp only [WE_eq, WS_eq, WO_eq, WI_eq] <;> exact RS_frz
@[simp ↓] theorem WS_app : WS (mApp i md ⟨sv, κs⟩ S) N T B C E ↔ WO (ownAt sv i) fun xs => WE (md ⟨sv, κs⟩ S) (fun d S' => xs.length < sizeLine ∧ N (sv.set i (some (.own (.lst (xs ++ [d]))))) S') (fun x S' => E x sv S') := by simp -dsimp only [WE_eq, WS_eq, WO_eq, WI_eq] <;> exact RS_app
@[simp ↓] theorem WS_put : WS (mPut i mi md ⟨sv, κs⟩ S) N T B C E ↔ WE (md ⟨sv, κs⟩ S) (fun d S1 => hasAt sv i = true ∧ WE (mi ⟨sv, κs⟩ S1) (fun k S2 => putW sv i k d S2 N) (fun x S' => E x sv S')) (fun x S' => E x sv S') := by simp -dsimp only [WE_eq, WS_eq, WO_eq, WI_eq] <;> exact RS_put
end
section
variable {t : Tg} {mb : MS} {sv : List (Option Sl)} {κs : List Sem} {S : Sto} {mi : M (List D)} {N : List (Option Sl) → Sto → Prop} {T : D → Sto → Prop} {B C : List (Option Sl) → Sto → Prop} {E : Exc → List (Option Sl) → Sto → Prop}
/-- for, with an invariant of what is left, the slots, the store -/
theorem WS_forL (P : List D → List (Option Sl) → Sto → Prop)
    (step : ∀ d ds sl S, P (d :: ds) sl S → WO (bindT t d sl) fun sl1 => WS (mb ⟨sl1, κs⟩ S) (fun sl S => Hd (P ds sl S)) T N (fun sl S => Hd (P ds sl S)) E) (done : ∀ sl S, P [] sl S → N sl S) :
    ∀ (ds : List D) (sl : List (Option Sl)) (S : Sto), P ds sl S → WS (forL t mb ds ⟨sl, κs⟩ S) N T B C E
  | [], sl, S, h => ⟨done sl S h⟩
  | d :: ds, sl, S, h => by
    obtain ⟨sl1, e, w⟩ := step d ds sl S h
    unfold forL
    simp only [e]
    unfold mLoop
    rw [WS_eq] at w
    unfold RS at w
    split at w <;> rename_i hq <;> rw [hq]
    · exact WS_forL P step done ds _ _ w.get
    · exact ⟨w⟩
    · exact ⟨w⟩
    · exact WS_forL P step done ds _ _ w.get
    · exact ⟨w⟩
    · exact w.elim
theorem WS_for (I : List D → Sto → Prop) (P : List D → List (Option Sl) → Sto → Prop) (hi : WE (mi ⟨sv, κs⟩ S) (fun ds S => Hd (I ds S)) fun x S' => E x sv S') (h0 : ∀ ds S1, I ds S1 → P ds sv S1)
    (step : ∀ d ds sl S, P (d :: ds) sl S → WO (bindT t d sl) fun sl1 => WS (mb ⟨sl1, κs⟩ S) (fun sl S => Hd (P ds sl S)) T N (fun sl S => Hd (P ds sl S)) E) (done : ∀ sl S, P [] sl S → N sl S) :
    WS (mFor mi t mb ⟨sv, κs⟩ S) N T B C E := by
  unfold mFor
  refine WS_then.mpr ?_
  exact hi.use fun ds S1 h => WS_forL P step done ds sv S1 (h0 ds S1 h.get)
/-- while, with a measure -/
theorem WS_whileN {mt : M Bool} (P : Nat → List (Option Sl) → Sto → Prop)
    (step : ∀ n sl S, P n sl S → WE (mt ⟨sl, κs⟩ S) (fun k S1 => WI k (WS (mb ⟨sl, κs⟩ S1) (fun sl S => Hd (∃ k, k < n ∧ P k sl S)) T N (fun sl S => Hd (∃ k, k < n ∧ P k sl S)) E) (N sl S1)) fun x S' => E x sl S') :
    ∀ (n M : Nat) (sl : List (Option Sl)) (S : Sto), n < M → P n sl S → WS (whileN mt mb M ⟨sl, κs⟩ S) N T B C E := by
  intro n
  induction n using Nat.strongRecOn with
  | ind n ih =>
    intro M sl S hM h
    cases M with
    | zero => omega
    | succ M =>
      unfold whileN
      refine WS_then.mpr ?_
      refine (step n sl S h).use fun k S1 w => ?_
      refine WS_ite.mpr ?_
      cases k with
      | false =>
        exact WI_false.mpr ⟨WI_false.mp w⟩
      | true =>
        refine WI_true.mpr ?_
        replace w := WI_true.mp w
        unfold mLoop
        rw [WS_eq] at w
        unfold RS at w
        split at w <;> rename_i hq <;> rw [hq]
        · obtain ⟨⟨k, hk, w⟩⟩ := w
          exact ih k hk M _ _ (by omega) w
        · exact ⟨w⟩
        · exact ⟨w⟩
        · obtain ⟨⟨k, hk, w⟩⟩ := w
          exact ih k hk M _ _ (by omega) w
        · exact ⟨w⟩
        · exact w.elim
end
section
variable {t : Tg} {vs : List Nat} {mt : M Bool} {me : M D} {sv : List (Option Sl)} {κs : List Sem} {S : Sto} {mi : M (List D)} {Q : List D → Sto → Prop} {E : Exc → Sto → Prop}
/-- a comprehension, with an invariant of what is left, what is found, the store -/
theorem WE_comp (I : List D → Sto → Prop) (P : List D → List D → Sto → Prop) (hi : WE (mi ⟨sv, κs⟩ S) (fun ds S => Hd (I ds S)) E) (h0 : ∀ ds S1, I ds S1 → P ds [] S1)
    (step : ∀ d ds acc S, P (d :: ds) acc S → WO (bindT t d (wipeSl sv vs)) fun sl1 => WE (mt ⟨sl1, κs⟩ S) (fun k S1 => WI k (WE (me ⟨sl1, κs⟩ S1) (fun x S2 => Hd (P ds (acc ++ [x]) S2)) fun _ _ => False) (Hd (P ds acc S1))) fun _ _ => False)
    (done : ∀ acc S, P [] acc S → Q acc S) : WE (mComp mi t vs mt me ⟨sv, κs⟩ S) Q E := by
  unfold mComp
  refine WE_bind.mpr ?_
  refine hi.use fun ds S1 h => ?_
  have go : ∀ (ds acc : List D) (S : Sto), P ds acc S → WE (compL t vs mt me ⟨sv, κs⟩ ds acc S) Q E := by
    intro ds
    induction ds with
    | nil => exact fun acc S h => ⟨done acc S h⟩
    | cons d ds ih =>
      intro acc S h
      obtain ⟨sl1, e, w⟩ := step d ds acc S h
      obtain ⟨k, S1, e1, w⟩ := w.get
      unfold compL
      simp only [e, e1]
      cases k with
      | false =>
        replace w := WI_false.mp w
        exact ih _ _ w.get
      | true =>
        replace w := WI_true.mp w
        obtain ⟨x, S2, e2, w⟩ := w.get
        simp only [e2]
        exact ih _ _ w.get
  exact go ds [] S1 (h0 ds S1 h.get)
theorem WE_comp_map {α : Type} (F : α → D) (p : α → Bool) (g : α → D) (xs : List α) (hi : WE (mi ⟨sv, κs⟩ S) (fun ds S1 => ds = xs.map F ∧ S1 = S) E)
    (h : ∀ x ∈ xs, WO (bindT t (F x) (wipeSl sv vs)) fun sl => WE (mt ⟨sl, κs⟩ S) (fun k S1 => k = p x ∧ S1 = S ∧ (p x = true → WE (me ⟨sl, κs⟩ S) (fun d S2 => d = g x ∧ S2 = S) fun _ _ => False)) fun _ _ => False)
    (hQ : Q ((xs.filter p).map g) S) : WE (mComp mi t vs mt me ⟨sv, κs⟩ S) Q E := by
  refine WE_comp _ (fun ds acc S1 => ∃ ys zs, xs = ys ++ zs ∧ ds = zs.map F ∧ acc = (ys.filter p).map g ∧ S1 = S) (hi.use fun _ _ h => .mk h) (fun ds S1 ⟨e1, e2⟩ => ⟨[], xs, rfl, e1, rfl, e2⟩) ?_ ?_
  · rintro d ds acc S1 ⟨ys, zs, e1, e2, rfl, rfl⟩
    cases zs with
    | nil => cases e2
    | cons z zs =>
      cases e2
      obtain ⟨sl, b, w⟩ := h z (by rw [e1]; simp)
      refine ⟨sl, b, w.use fun k S2 ⟨hk, hS, w⟩ => ?_⟩
      subst hk hS
      cases hp : p z with
      | false =>
        refine WI_false.mpr ?_
        exact .mk ⟨ys ++ [z], zs, by rw [e1]; simp, rfl, by simp [hp], rfl⟩
      | true =>
        refine WI_true.mpr ?_
        refine (w hp).use fun x S3 ⟨hx, hS⟩ => ?_
        subst hx hS
        exact .mk ⟨ys ++ [z], zs, by rw [e1]; simp, rfl, by simp [hp], rfl⟩
  · rintro acc S1 ⟨ys, zs, e1, e2, rfl, rfl⟩
    have : zs = [] := by
      cases zs with
      | nil => rfl
      | cons => cases e2
    subst this
    rw [List.append_nil] at e1
    subst e1
    exact hQ
theorem WE_comp_all {α : Type} (F : α → D) (g : α → D) (xs : List α) (hi : WE (mi ⟨sv, κs⟩ S) (fun ds S1 => ds = xs.map F ∧ S1 = S) E)
    (h : ∀ x ∈ xs, WO (bindT t (F x) (wipeSl sv vs)) fun sl => WE (mt ⟨sl, κs⟩ S) (fun k S1 => k = true ∧ S1 = S ∧ WE (me ⟨sl, κs⟩ S) (fun d S2 => d = g x ∧ S2 = S) fun _ _ => False) fun _ _ => False)
    (hQ : Q (xs.map g) S) : WE (mComp mi t vs mt me ⟨sv, κs⟩ S) Q E := by
  refine WE_comp_map F (fun _ => true) g xs hi (fun x hx => ?_) ?_
  · obtain ⟨sl, e, w⟩ := h x hx
    exact ⟨sl, e, w.use fun k S1 ⟨a, b, c⟩ => ⟨a, b, fun _ => c⟩⟩
  · have e : xs.filter (fun _ => true) = xs := List.filter_eq_self.mpr fun _ _ => rfl
    rw [e]; exact hQ
end
theorem WS.cut {m1 m2 : MS} {sv : List (Option Sl)} {κs : List Sem} {S : Sto} {N : List (Option Sl) → Sto → Prop} {T : D → Sto → Prop} {B C : List (Option Sl) → Sto → Prop} {E : Exc → List (Option Sl) → Sto → Prop}
    (N0 : List (Option Sl) → Sto → Prop) (h1 : WS (m1 ⟨sv, κs⟩ S) (fun sl S => Hd (N0 sl S)) T B C E) (h2 : ∀ sl S', N0 sl S' → WS (m2 ⟨sl, κs⟩ S') N T B C E) : WS (mSeq m1 m2 ⟨sv, κs⟩ S) N T B C E :=
  WS_seq.mpr (h1.use fun sl S' h => h2 sl S' h.get)
/-! what small steps give -/
@[simp] theorem truthD_bl (b : Bool) : truthD (.bl b) = some b := rfl
@[simp] theorem truthD_non : truthD .non = some false := rfl
@[simp] theorem addD_int (i j : Int) : addD (.int i) (.int j) = some (.int (i + j)) := rfl
@[simp] theorem subD_int (i j : Int) : subD (.int i) (.int j) = some (.int (i - j)) := rfl
@[simp] theorem ltD_int (i j : Int) : ltD (.int i) (.int j) = some (decide (i < j)) := rfl
@[simp] theorem leD_int (i j : Int) : leD (.int i) (.int j) = some (decide (i ≤ j)) := rfl
@[simp] theorem gtD_int (i j : Int) : gtD (.int i) (.int j) = some (decide (j < i)) := rfl
@[simp] theorem geD_int (i j : Int) : geD (.int i) (.int j) = some (decide (j ≤ i)) := rfl
@[simp] theorem ltD_str (i j : Str) : ltD (.str i) (.str j) = some (ltS i j) := rfl
@[simp] theorem eqD_int' (i j : Int) : eqD (.int i) (.int j) = some (decide (i = j)) := eqD_cod cod_int (by decide) i j
@[simp] theorem neD_int' (i j : Int) : neD (.int i) (.int j) = some (!decide (i = j)) := neD_cod cod_int (by decide) i j
@[simp] theorem eqD_str' (i j : Str) : eqD (.str i) (.str j) = some (decide (i = j)) := eqD_cod cod_str (by decide) i j
@[simp] theorem neD_str' (i j : Str) : neD (.str i) (.str j) = some (!decide (i = j)) := neD_cod cod_str (by decide) i j
@[simp] theorem negD_int (i : Int) : negD (.int i) = some (.int (-i)) := rfl
@[simp] theorem intO_int (i : Int) : intO (.int i) = some i := rfl
@[simp] theorem iterD_lst (ds : List D) : iterD (.lst ds) = some ds := rfl
@[simp] theorem iterD_tup (ds : List D) : iterD (.tup ds) = some ds := rfl
@[simp] theorem iterD_dct (ds : List (D × D)) : iterD (.dct ds) = some (ds.map (·.1)) := rfl
@[simp] theorem itemsD_lst (ds : List D) : itemsD (.lst ds) = some ds := rfl
@[simp] theorem itemsD_tup (ds : List D) : itemsD (.tup ds) = some ds := rfl
@[simp] theorem tupleD_lst (ds : List D) : tupleD [.lst ds] = some (.tup ds) := rfl
@[simp] theorem lenD_lst (ds : List D) : lenD [.lst ds] = some (.int ds.length) := rfl
@[simp] theorem lenD_tup (ds : List D) : lenD [.tup ds] = some (.int ds.length) := rfl
@[simp] theorem lenD_str (x : Str) : lenD [.str x] = some (.int x.length) := rfl
@[simp] theorem lenD_dct (ds : List (D × D)) : lenD [.dct ds] = some (.int ds.length) := rfl
@[simp] theorem intD_int (i : Int) : intD [.int i] = some (.int i) := rfl
@[simp] theorem isStr_str (x : Str) : isStr (.str x) = true := rfl
@[simp] theorem sl1_lst' (a : List D) : sl1 (.lst a) = .val (.lst a) := rfl
@[simp] theorem sl1_str' (a : Str) : sl1 (.str a) = .val (.str a) := rfl
@[simp] theorem sl1_int' (a : Int) : sl1 (.int a) = .val (.int a) := rfl
@[simp] theorem sl1_tup' (a : List D) : sl1 (.tup a) = .val (.tup a) := rfl
@[simp] theorem sl1_obj' (a : Nat) : sl1 (.obj a) = .val (.obj a) := rfl
@[simp] theorem sl1_non' : sl1 .non = .val .non := rfl
@[simp] theorem sl1_bl' (b : Bool) : sl1 (.bl b) = .val (.bl b) := rfl
@[simp] theorem sl1_dct' (a : List (D × D)) : sl1 (.dct a) = .val (.dct a) := rfl
@[simp] theorem isNon_non : D.isNon .non = true := rfl
@[simp] theorem isNon_int (i : Int) : D.isNon (.int i) = false := rfl
@[simp] theorem isNon_tup (a : List D) : D.isNon (.tup a) = false := rfl
@[simp] theorem isNon_lst (a : List D) : D.isNon (.lst a) = false := rfl
@[simp] theorem isNon_str (a : Str) : D.isNon (.str a) = false := rfl
@[simp] theorem isNon_bl (a : Bool) : D.isNon (.bl a) = false := rfl
@[simp] theorem bindT_nm (i : Nat) (d : D) (sl : List (Option Sl)) : bindT (.nm i) d sl = some (sl.set i (some (.val d))) := by unfold bindT; exact Eq.refl _
@[simp] theorem bindT_tup (ts : Tgs) (ds : List D) (sl : List (Option Sl)) : bindT (.tup ts) (.tup ds) sl = bindTs ts ds sl := by
  conv => lhs; unfold bindT
@[simp] theorem bindTs_nil (sl : List (Option Sl)) : bindTs .nil [] sl = some sl := by unfold bindTs; exact Eq.refl _
@[simp] theorem bindTs_nm (i : Nat) (ts : Tgs) (d : D) (ds : List D) (sl : List (Option Sl)) : bindTs (.cons (.nm i) ts) (d :: ds) sl = bindTs ts ds (sl.set i (some (.val d))) := by
  conv => lhs; unfold bindTs
  rw [bindT_nm]
@[simp] theorem bindTs_tup (us : Tgs) (ts : Tgs) (es : List D) (ds : List D) (sl : List (Option Sl)) : bindTs (.cons (.tup us) ts) (.tup es :: ds) sl = (bindTs us es sl).bind fun sl' => bindTs ts ds sl' := by
  conv => lhs; unfold bindTs
  rw [bindT_tup]
  cases bindTs us es sl <;> rfl
end Lk
set_option Elab.async false
set_option linter.all false
set_option maxRecDepth 100000
set_option maxHeartbeats 0
namespace k76
open PySem PySem.Spec PyProof.Rows L2 NdefX Lk
def top (i : Nat) : Stmt := PySem.Challenge.pw_lookturns_k76_whole_simple_rules.main.body.getD i (.Pass ⟨0, 0, 0, 0⟩)
def c_LONGEST_NAME : D := (.int 8)
def c_MOST_AGES : D := (.int 600)
def c_MOST_LIMIT : D := (.int 60)
def c_MOST_PLACES : D := (.int 6)
def c_SMALL_LETTERS : D := (.str "abcdefghijklmnopqrstuvwxyz")
def c_WAYS : D := (.ktup [(.str "room"), (.str "share"), (.str "oldest")])
def c_WORDS : D := (.ktup [(.str "add"), (.str "ages"), (.str "all"), (.str "at"), (.str "away"), (.str "by"), (.str "doors"), (.str "due"), (.str "every"), (.str "from"), (.str "house"), (.str "keep"), (.str "kept"), (.str "leave"), (.str "limit"), (.str "look"), (.str "lost"), (.str "may"), (.str "miss"), (.str "must"), (.str "none"), (.str "of"), (.str "place"), (.str "rest"), (.str "round"), (.str "row"), (.str "times"), (.str "to"), (.str "with")])
def m_is_whole : MS := mSeq (mRtn (mAnd (mIsi .int (mBor 0)) (mNot (mIsi .bool (mBor 0)))))
  (mSkip)
def sem_is_whole : FSem := semOf 1 m_is_whole
def m_is_number : MS := mSeq (mRtn (mAnd (mFn sem_is_whole [] (mCons (mVar 0) (mNil))) (mAnd (mCmp leD (mBor 1) (mBor 0)) (mOr (mIsN true (mBor 2)) (mCmp leD (mBor 0) (mBor 2))))))
  (mSkip)
def sem_is_number : FSem := semOf 3 m_is_number
def m_is_string : MS := mSeq (mRtn (mIsi .str (mBor 0)))
  (mSkip)
def sem_is_string : FSem := semOf 1 m_is_string
def m_is_made_of : MS := mSeq (mRtn (mAnd (mCmp neD (mBor 0) (mRet (.str ""))) (mCall allD (mCons (mLs (mComp (mIt (mVar 0)) (.nm 2) [2] (mRet true) (mCmp (memD false) (mVar 2) (mBor 1)))) (mNil)))))
  (mSkip)
def sem_is_made_of : FSem := semOf 3 m_is_made_of
def m_is_word : MS := mSeq (mRtn (mAnd (mFn sem_is_string [] (mCons (mVar 0) (mNil))) (mFn sem_is_made_of [] (mCons (mVar 0) (mCons (mRet c_SMALL_LETTERS) (mNil))))))
  (mSkip)
def sem_is_word : FSem := semOf 1 m_is_word
def m_is_name : MS := mSeq (mRtn (mAnd (mFn sem_is_word [] (mCons (mVar 0) (mNil))) (mAnd (mCmp leD (mCall lenD (mCons (mBor 0) (mNil))) (mRet c_LONGEST_NAME)) (mCmp (memD true) (mVar 0) (mRet c_WORDS)))))
  (mSkip)
def sem_is_name : FSem := semOf 1 m_is_name
def m_is_tuple_of : MS := mSeq (mRtn (mAnd (mIsi .tuple (mBor 0)) (mCmp eqD (mCall lenD (mCons (mBor 0) (mNil))) (mBor 1))))
  (mSkip)
def sem_is_tuple_of : FSem := semOf 2 m_is_tuple_of
def m_is_in : MS := mSeq (mRtn (mAnd (mFn sem_is_string [] (mCons (mVar 0) (mNil))) (mCmp (memD false) (mVar 0) (mBor 1))))
  (mSkip)
def sem_is_in : FSem := semOf 2 m_is_in
def m_is_ascending : MS := mSeq (mRtn (mCall allD (mCons (mLs (mComp (mRng2 (mRet (.int 1)) (mCall lenD (mCons (mBor 0) (mNil)))) (.nm 1) [1] (mRet true) (mCmp ltD (mIxS (mBor 0) (mOp2 subD (mVar 1) (mRet (.int 1)))) (mIxS (mBor 0) (mVar 1))))) (mNil))))
  (mSkip)
def sem_is_ascending : FSem := semOf 2 m_is_ascending
def m_is_less : MS := mSeq (mRtn (mCmp ltD (mOp2 mulD (mIxS (mBor 0) (mRet (.int 0))) (mIxS (mBor 1) (mRet (.int 1)))) (mOp2 mulD (mIxS (mBor 1) (mRet (.int 0))) (mIxS (mBor 0) (mRet (.int 1))))))
  (mSkip)
def sem_is_less : FSem := semOf 2 m_is_less
def m_product_of : MS := mSeq (mSet 1 (mRet (.int 1)))
  (mSeq (mFor (mIt (mVar 0)) (.nm 2) (mSeq (mSet 1 (mOp2 mulD (mVar 1) (mVar 2)))
  (mSkip)))
  (mSeq (mRtn (mVar 1))
  (mSkip)))
def sem_product_of : FSem := semOf 3 m_product_of
def m_is_limit : MS := mSeq (mRtn (mFn sem_is_number [] (mCons (mVar 0) (mCons (mRet (.int 1)) (mCons (mRet c_MOST_LIMIT) (mNil))))))
  (mSkip)
def sem_is_limit : FSem := semOf 1 m_is_limit
def m_is_pair_of_house : MS := mSeq (mRtn (mAnd (mFn sem_is_tuple_of [] (mCons (mVar 0) (mCons (mRet (.int 2)) (mNil)))) (mAnd (mFn sem_is_name [] (mCons (mIxS (mBor 0) (mRet (.int 0))) (mNil))) (mFn sem_is_limit [] (mCons (mIxS (mBor 0) (mRet (.int 1))) (mNil))))))
  (mSkip)
def sem_is_pair_of_house : FSem := semOf 1 m_is_pair_of_house
def m_names_of : MS := mSeq (mRtn (mLs (mComp (mIt (mVar 0)) (.tup (.cons (.nm 1) (.cons (.nm 2) .nil))) [1, 2] (mRet true) (mVar 1))))
  (mSkip)
def sem_names_of : FSem := semOf 3 m_names_of
def m_limits_in : MS := mSeq (mRtn (mLs (mComp (mIt (mVar 0)) (.tup (.cons (.nm 1) (.cons (.nm 2) .nil))) [1, 2] (mRet true) (mVar 2))))
  (mSkip)
def sem_limits_in : FSem := semOf 3 m_limits_in
def m_is_house_form : MS := mSeq (mIfS (mOrT (mNotT (mTru (mIsi .tuple (mBor 0)))) (mNotT (mCh leD leD (mRet (.int 1)) (mCall lenD (mCons (mBor 0) (mNil))) (mRet c_MOST_PLACES)))) (mSeq (mRtn (mRet (.bl false)))
  (mSkip)) (mSkip))
  (mSeq (mIfS (mOrT (mNotT (mTru (mCall allD (mCons (mLs (mComp (mIt (mVar 0)) (.nm 1) [1] (mRet true) (mFn sem_is_pair_of_house [] (mCons (mVar 1) (mNil))))) (mNil))))) (mNotT (mTru (mFn sem_is_ascending [] (mCons (mFn sem_names_of [] (mCons (mVar 0) (mNil))) (mNil)))))) (mSeq (mRtn (mRet (.bl false)))
  (mSkip)) (mSkip))
  (mSeq (mRtn (mCmp leD (mFn sem_product_of [] (mCons (mFn sem_limits_in [] (mCons (mVar 0) (mNil))) (mNil))) (mRet c_MOST_AGES)))
  (mSkip)))
def sem_is_house_form : FSem := semOf 2 m_is_house_form
def m_all_below : MS := mSeq (mSet 1 (mLst (mCons (mTup (mNil)) (mNil))))
  (mSeq (mFor (mIt (mVar 0)) (.nm 2) (mSeq (mSet 1 (mLs (mComp2 (mIt (mVar 1)) (.nm 3) [3, 4] (mRet true) (mRng1 (mVar 2)) (.nm 4) [4] (mRet true) (mTup (mStr (mVar 3) (mCons (mVar 4) (mNil)))))))
  (mSkip)))
  (mSeq (mRtn (mVar 1))
  (mSkip)))
def sem_all_below : FSem := semOf 5 m_all_below
def m_all_ages : MS := mSeq (mRtn (mFn sem_all_below [] (mCons (mFn sem_limits_in [] (mCons (mVar 0) (mNil))) (mNil))))
  (mSkip)
def sem_all_ages : FSem := semOf 1 m_all_ages
def m_keep_limits : MS := mSeq (mRtn (mCall allD (mCons (mLs (mComp (mZip (mVar 1) (mFn sem_limits_in [] (mCons (mVar 0) (mNil)))) (.tup (.cons (.nm 2) (.cons (.nm 3) .nil))) [2, 3] (mRet true) (mCmp ltD (mBor 2) (mBor 3)))) (mNil))))
  (mSkip)
def sem_keep_limits : FSem := semOf 4 m_keep_limits
def m_aged : MS := mSeq (mRtn (mCall tupleD (mCons (mLs (mComp (mZip (mFn sem_names_of [] (mCons (mVar 0) (mNil))) (mVar 1)) (.tup (.cons (.nm 3) (.cons (.nm 4) .nil))) [3, 4] (mRet true) (mIf (mCmpT (memD false) (mVar 3) (mBor 2)) (mRet (.int 0)) (mOp2 addD (mVar 4) (mRet (.int 1)))))) (mNil))))
  (mSkip)
def sem_aged : FSem := semOf 5 m_aged
def m_ages_after : MS := mSeq (mSet 3 (mFn sem_aged [] (mCons (mVar 0) (mCons (mVar 1) (mCons (mTup (mCons (mVar 2) (mNil))) (mNil))))))
  (mSeq (mRtn (mIf (mTru (mFn sem_keep_limits [] (mCons (mVar 0) (mCons (mVar 3) (mNil))))) (mVar 3) (mRet .non)))
  (mSkip))
def sem_ages_after : FSem := semOf 4 m_ages_after
def m_check_house : MS := mSeq (mIfS (mNotT (mTru (mFn sem_is_house_form [] (mCons (mVar 0) (mNil))))) (mSeq (mStuck)
  (mSkip)) (mSkip))
  (mSkip)
def sem_check_house : FSem := semOf 1 m_check_house
def m_wrong_ages : MS := mSeq (mFor (mEnZ (mVar 1) (mVar 0)) (.tup (.cons (.nm 2) (.cons (.tup (.cons (.nm 3) (.cons (.nm 4) .nil))) .nil))) (mSeq (mIfS (mNotT (mTru (mFn sem_is_number [] (mCons (mVar 3) (mCons (mRet (.int 0)) (mCons (mOp2 subD (mIxS (mBor 4) (mRet (.int 1))) (mRet (.int 1))) (mNil))))))) (mSeq (mRtn (mVar 2))
  (mSkip)) (mSkip))
  (mSkip)))
  (mSeq (mRtn (mRet .non))
  (mSkip))
def sem_wrong_ages : FSem := semOf 5 m_wrong_ages
def m_check_ages : MS := mSeq (mIfS (mNotT (mTru (mFn sem_is_tuple_of [] (mCons (mVar 1) (mCons (mCall lenD (mCons (mBor 0) (mNil))) (mNil)))))) (mSeq (mStuck)
  (mSkip)) (mSkip))
  (mSeq (mSet 2 (mFn sem_wrong_ages [] (mCons (mVar 0) (mCons (mVar 1) (mNil)))))
  (mSeq (mIfS (mIsNT false (mBor 2)) (mSeq (mStuck)
  (mSkip)) (mSkip))
  (mSkip)))
def sem_check_ages : FSem := semOf 3 m_check_ages
def m_check_way : MS := mSeq (mIfS (mNotT (mTru (mFn sem_is_in [] (mCons (mVar 0) (mCons (mRet c_WAYS) (mNil)))))) (mSeq (mStuck)
  (mSkip)) (mSkip))
  (mSkip)
def sem_check_way : FSem := semOf 1 m_check_way
def m_check_ruled : MS := mSeq (mDrop (mFn sem_check_house [] (mCons (mVar 0) (mNil))))
  (mSeq (mDrop (mFn sem_check_ages [] (mCons (mVar 0) (mCons (mVar 1) (mNil)))))
  (mSeq (mDrop (mFn sem_check_way [] (mCons (mVar 2) (mNil))))
  (mSkip)))
def sem_check_ruled : FSem := semOf 3 m_check_ruled
def m_urge_of : MS := mSeq (mIfS (mCmpT eqD (mBor 2) (mRet (.str "room"))) (mSeq (mRtn (mTup (mCons (mOp2 subD (mVar 0) (mVar 1)) (mCons (mRet (.int 1)) (mNil)))))
  (mSkip)) (mSkip))
  (mSeq (mRtn (mIf (mCmpT eqD (mBor 2) (mRet (.str "share"))) (mTup (mCons (mOp2 addD (mVar 0) (mRet (.int 1))) (mCons (mVar 1) (mNil)))) (mTup (mCons (mVar 0) (mCons (mRet (.int 1)) (mNil))))))
  (mSkip))
def sem_urge_of : FSem := semOf 3 m_urge_of
def m_look_by : MS := mSeq (mSet 3 (mLs (mComp (mZip (mVar 1) (mVar 0)) (.tup (.cons (.nm 7) (.cons (.tup (.cons (.nm 8) (.cons (.nm 9) .nil))) .nil))) [7, 8, 9] (mRet true) (mFn sem_urge_of [] (mCons (mVar 7) (mCons (mVar 9) (mCons (mVar 2) (mNil))))))))
  (mSeq (mSet 4 (mRet (.int 0)))
  (mSeq (mFor (mEnum (mVar 3)) (.tup (.cons (.nm 5) (.cons (.nm 6) .nil))) (mSeq (mIfS (mTru (mFn sem_is_less [] (mCons (mIxS (mBor 3) (mVar 4)) (mCons (mVar 6) (mNil))))) (mSeq (mSet 4 (mVar 5))
  (mSkip)) (mSkip))
  (mSkip)))
  (mSeq (mRtn (mIxS (mFn sem_names_of [] (mCons (mVar 0) (mNil))) (mVar 4)))
  (mSkip))))
def sem_look_by : FSem := semOf 10 m_look_by
def m_led_by : MS := mSeq (mPar [3, 4, 5] (mSlO (mRet (.dct [])) (mSlO (mObL (mLN (mNil))) (mSlV (mVar 1) (mSl0)))))
  (mSeq (whileN (mAndT (mIsNT false (mBor 5)) (mCmpT (memD true) (mVar 5) (mBor 3))) (mSeq (mPut 3 (mVar 5) (mCall lenD (mCons (mBor 4) (mNil))))
  (mSeq (mSet 6 (mFn sem_look_by [] (mCons (mVar 0) (mCons (mVar 5) (mCons (mVar 2) (mNil))))))
  (mSeq (mApp 4 (mVar 6))
  (mSeq (mSet 5 (mFn sem_ages_after [] (mCons (mVar 0) (mCons (mVar 5) (mCons (mVar 6) (mNil))))))
  (mSkip))))) 1000000)
  (mSeq (mFrz 4) (mSeq (mRtn (mTup (mCons (mVar 4) (mCons (mIf (mIsNT true (mBor 5)) (mRet .non) (mIxS (mBor 3) (mVar 5))) (mNil)))))
  (mSkip))))
def sem_led_by : FSem := semOf 7 m_led_by
def m_rule_look : MS := mSeq (mDrop (mFn sem_check_ruled [] (mCons (mVar 0) (mCons (mVar 1) (mCons (mVar 2) (mNil))))))
  (mSeq (mRtn (mFn sem_look_by [] (mCons (mVar 0) (mCons (mVar 1) (mCons (mVar 2) (mNil))))))
  (mSkip))
def sem_rule_look : FSem := semOf 3 m_rule_look
def m_breaks_by : MS := mSeq (mDrop (mFn sem_check_ruled [] (mCons (mVar 0) (mCons (mVar 1) (mCons (mVar 2) (mNil))))))
  (mSeq (mSetT (.tup (.cons (.nm 3) (.cons (.nm 4) .nil))) (mFn sem_led_by [] (mCons (mVar 0) (mCons (mVar 1) (mCons (mVar 2) (mNil))))))
  (mSeq (mRtn (mIf (mIsNT true (mBor 4)) (mCall lenD (mCons (mBor 3) (mNil))) (mRet .non)))
  (mSkip)))
def sem_breaks_by : FSem := semOf 5 m_breaks_by
def m_rule_ring : MS := mSeq (mDrop (mFn sem_check_ruled [] (mCons (mVar 0) (mCons (mVar 1) (mCons (mVar 2) (mNil))))))
  (mSeq (mSetT (.tup (.cons (.nm 3) (.cons (.nm 4) .nil))) (mFn sem_led_by [] (mCons (mVar 0) (mCons (mVar 1) (mCons (mVar 2) (mNil))))))
  (mSeq (mRtn (mIf (mIsNT true (mBor 4)) (mRet .non) (mCall tupleD (mCons (mSl (mVar 3) (mSome (mVar 4)) (mRet none)) (mNil)))))
  (mSkip)))
def sem_rule_ring : FSem := semOf 5 m_rule_ring
def m_kept_by_rule : MS := mSeq (mDrop (mFn sem_check_house [] (mCons (mVar 0) (mNil))))
  (mSeq (mDrop (mFn sem_check_way [] (mCons (mVar 1) (mNil))))
  (mSeq (mRtn (mCall lenD (mCons (mLs (mComp (mIt (mFn sem_all_ages [] (mCons (mVar 0) (mNil)))) (.nm 2) [2] (mIsNT false (mIxS (mFn sem_led_by [] (mCons (mVar 0) (mCons (mVar 2) (mCons (mVar 1) (mNil))))) (mRet (.int 1)))) (mVar 2))) (mNil))))
  (mSkip)))
def sem_kept_by_rule : FSem := semOf 3 m_kept_by_rule
def m__law_well : MS := mSeq (mSet 2 (mOp2 addD (mRet (.int 130577)) (mOp2 mulD (mRet (.int 7013)) (mVar 1))))
  (mSeq (mFor (mIt (mSl (mVar 0) (mRet none) (mSome (mRet (.int 12))))) (.nm 3) (mSeq (mSet 2 (mOp2 modD (mCall intD (mCons (mOp2 addD (mOp2 addD (mOp2 mulD (mVar 2) (mRet (.int 45281))) (mOp2 modD (mCall intD (mCons (mBor 3) (mNil))) (mRet (.int 2147483549)))) (mRet (.int 19))) (mNil))) (mRet (.int 2147483563))))
  (mSkip)))
  (mSeq (mSet 4 (mIf (mCmpT ltD (mBor 1) (mCall lenD (mCons (mBor 0) (mNil)))) (mCall intD (mCons (mIxS (mBor 0) (mVar 1)) (mNil))) (mRet (.int 0))))
  (mSeq (mSet 2 (mOp2 modD (mCall intD (mCons (mOp2 addD (mOp2 addD (mOp2 mulD (mVar 2) (mRet (.int 41))) (mOp2 mulD (mOp2 modD (mCall intD (mCons (mBor 4) (mNil))) (mRet (.int 2147483549))) (mRet (.int 15031)))) (mRet (.int 5))) (mNil))) (mRet (.int 2147483563))))
  (mSeq (mRtnO (mObL (mLN (mCons (mIf (mOrT (mCmpT ltD (mBor 4) (mRet (.int 0))) (mCmpT geD (mBor 4) (mOp2 powD (mRet (.int 10)) (mRet (.int 15))))) (mCall absD (mCons (mBor 4) (mNil))) (mRet (.int 0))) (mCons (mVar 2) (mCons (mRet (.int 0)) (mNil)))))))
  (mSkip)))))
def sem__law_well : FSem := semOf 5 m__law_well
def m__law_draw : MS := mSeq (mIfS (mCmpT gtD (mIxS (mBor 0) (mRet (.int 0))) (mRet (.int 0))) (mSeq (mPutT 0 3 (mRet (.int 0)) (mCall divmodD (mCons (mIxS (mBor 0) (mRet (.int 0))) (mCons (mBor 1) (mNil)))))
  (mSeq (mRtn (mVar 3))
  (mSkip))) (mSkip))
  (mSeq (mPut 0 (mRet (.int 2)) (mOp2 addD (mIxS (mBor 0) (mRet (.int 2))) (mRet (.int 1))))
  (mSeq (mSet 2 (mOp2 modD (mCall intD (mCons (mOp2 addD (mOp2 addD (mOp2 mulD (mIxS (mBor 0) (mRet (.int 1))) (mRet (.int 40037))) (mOp2 mulD (mRet (.int 13001)) (mIxS (mBor 0) (mRet (.int 2))))) (mRet (.int 7))) (mNil))) (mRet (.int 2147483563))))
  (mSeq (mPut 0 (mRet (.int 1)) (mOp2 modD (mCall intD (mCons (mOp2 addD (mOp2 mulD (mVar 2) (mOp2 addD (mOp2 modD (mCall intD (mCons (mBor 2) (mNil))) (mRet (.int 5009))) (mRet (.int 20023)))) (mIxS (mBor 0) (mRet (.int 2)))) (mNil))) (mRet (.int 2147483563))))
  (mSeq (mRtn (mOp2 modD (mCall intD (mCons (mOp2 fdivD (mIxS (mBor 0) (mRet (.int 1))) (mRet (.int 1013))) (mNil))) (mVar 1)))
  (mSkip)))))
def sem__law_draw : FSem := semOf 4 m__law_draw
def m__law_of : MS := mSeq (mRtn (mIxS (mBor 1) (mFn sem__law_draw [] (mCons (mVar 0) (mCons (mCall lenD (mCons (mBor 1) (mNil))) (mNil))))))
  (mSkip)
def sem__law_of : FSem := semOf 2 m__law_of
def m__law_same (self : FSem) : MS := mSeq (mIfS (mAndT (mTru (mIsi .tuple (mBor 0))) (mTru (mIsi .tuple (mBor 1)))) (mSeq (mRtn (mAnd (mCmp eqD (mCall lenD (mCons (mBor 0) (mNil))) (mCall lenD (mCons (mBor 1) (mNil)))) (mCall allD (mCons (mLs (mComp (mRng1 (mCall lenD (mCons (mBor 0) (mNil)))) (.nm 2) [2] (mRet true) (mFn self [] (mCons (mIxS (mBor 0) (mVar 2)) (mCons (mIxS (mBor 1) (mVar 2)) (mNil)))))) (mNil)))))
  (mSkip)) (mSkip))
  (mSeq (mIfS (mOrT (mCmpT neD (mIsi .bool (mBor 0)) (mIsi .bool (mBor 1))) (mCmpT neD (mIsi .int (mBor 0)) (mIsi .int (mBor 1)))) (mSeq (mRtn (mRet (.bl false)))
  (mSkip)) (mSkip))
  (mSeq (mRtn (mAnd (mCmp eqD (mIsi .tuple (mBor 0)) (mIsi .tuple (mBor 1))) (mCmp eqD (mBor 0) (mBor 1))))
  (mSkip)))
def semN__law_same : Nat → FSem
  | 0 => fun _ _ _ => none
  | n + 1 => semOf 3 (m__law_same (semN__law_same n))
def sem__law_same : FSem := semN__law_same 6
def m__law_names : MS := mSeq (mPar [2, 3] (mSlO (mObL (mLN (mNil))) (mSlV (mRet (.str "abcdefghijklmnopqrstuvwxyz")) (mSl0))))
  (mSeq (mSet 4 (mRet (.str "add ages all at away by doors due every from house keep kept leave limit look lost may miss must none of")))
  (mSeq (mSet 4 (mOp2 addD (mMt isStr splitD (mVar 4) (mCons (mRet (.str " ")) (mNil))) (mMt isStr splitD (mRet (.str "place rest round row times to with")) (mCons (mRet (.str " ")) (mNil)))))
  (mSeq (mFor (mRng1 (mVar 1)) (.nm 5) (mSeq (mSet 6 (mRet (.str "")))
  (mSeq (mFor (mRng1 (mFn sem__law_of [] (mCons (mVar 0) (mCons (mTup (mCons (mRet (.int 0)) (mCons (mRet (.int 1)) (mCons (mRet (.int 2)) (mCons (mRet (.int 3)) (mCons (mRet (.int 7)) (mNil))))))) (mNil))))) (.nm 7) (mSeq (mSet 6 (mOp2 addD (mVar 6) (mFn sem__law_of [] (mCons (mVar 0) (mCons (mVar 3) (mNil))))))
  (mSkip)))
  (mSeq (mSet 6 (mOp2 addD (mVar 6) (mIxS (mBor 3) (mVar 5))))
  (mSeq (mApp 2 (mIf (mCmpT (memD false) (mVar 6) (mBor 4)) (mOp2 addD (mRet (.str "q")) (mIxS (mBor 3) (mVar 5))) (mVar 6)))
  (mSkip))))))
  (mSeq (mRtn (mCall tupleD (mCons (mCall sortedD (mCons (mBor 2) (mNil))) (mNil))))
  (mSkip)))))
def sem__law_names : FSem := semOf 8 m__law_names
def m__law_house : MS := mSeq (mSet 3 (mFn sem__law_of [] (mCons (mVar 0) (mCons (mTup (mCons (mTup (mCons (mRet (.int 2)) (mCons (mRet (.int 4)) (mCons (mRet (.int 4)) (mNil))))) (mCons (mTup (mCons (mRet (.int 2)) (mCons (mRet (.int 3)) (mNil)))) (mCons (mTup (mCons (mRet (.int 3)) (mCons (mRet (.int 3)) (mCons (mRet (.int 3)) (mNil))))) (mCons (mTup (mCons (mRet (.int 2)) (mCons (mRet (.int 3)) (mCons (mRet (.int 6)) (mNil))))) (mCons (mTup (mCons (mRet (.int 1)) (mCons (mRet (.int 1)) (mNil)))) (mCons (mTup (mCons (mRet (.int 2)) (mCons (mRet (.int 2)) (mNil)))) (mCons (mTup (mCons (mRet (.int 4)) (mCons (mRet (.int 4)) (mCons (mRet (.int 5)) (mNil))))) (mCons (mTup (mCons (mRet (.int 1)) (mNil))) (mCons (mTup (mCons (mRet (.int 2)) (mCons (mRet (.int 4)) (mCons (mRet (.int 5)) (mNil))))) (mNil))))))))))) (mNil)))))
  (mSeq (mIfS (mCmpT eqD (mFn sem__law_draw [] (mCons (mVar 0) (mCons (mRet (.int 2)) (mNil)))) (mRet (.int 0))) (mSeq (mSet 3 (mCall tupleD (mCons (mLs (mComp (mRng1 (mOp2 addD (mRet (.int 1)) (mFn sem__law_draw [] (mCons (mVar 0) (mCons (mVar 1) (mNil)))))) (.nm 9) [9] (mRet true) (mOp2 addD (mRet (.int 1)) (mFn sem__law_draw [] (mCons (mVar 0) (mCons (mRet (.int 6)) (mNil))))))) (mNil))))
  (mSkip)) (mSkip))
  (mSeq (mSetT (.tup (.cons (.nm 4) (.cons (.nm 5) .nil))) (mTup (mCons (mLst (mNil)) (mCons (mRet (.int 1)) (mNil)))))
  (mSeq (mFor (mIt (mSl (mVar 3) (mRet none) (mSome (mVar 1)))) (.nm 6) (mSeq (mIfS (mCmpT leD (mOp2 mulD (mVar 5) (mVar 6)) (mBor 2)) (mSeq (mSetT (.tup (.cons (.nm 4) (.cons (.nm 5) .nil))) (mTup (mCons (mOp2 addD (mVar 4) (mLst (mCons (mVar 6) (mNil)))) (mCons (mOp2 mulD (mVar 5) (mVar 6)) (mNil)))))
  (mSkip)) (mSkip))
  (mSkip)))
  (mSeq (mSet 7 (mFn sem__law_names [] (mCons (mVar 0) (mCons (mCall lenD (mCons (mBor 4) (mNil))) (mNil)))))
  (mSeq (mRtn (mCall tupleD (mCons (mLs (mComp (mRng1 (mCall lenD (mCons (mBor 4) (mNil)))) (.nm 8) [8] (mRet true) (mTup (mCons (mIxS (mBor 7) (mVar 8)) (mCons (mIxS (mBor 4) (mVar 8)) (mNil)))))) (mNil))))
  (mSkip))))))
def sem__law_house : FSem := semOf 10 m__law_house
def m__law_places : MS := mSeq (mRtn (mCall tupleD (mCons (mLs (mComp (mIt (mVar 0)) (.nm 1) [1] (mRet true) (mIxS (mBor 1) (mRet (.int 0))))) (mNil))))
  (mSkip)
def sem__law_places : FSem := semOf 2 m__law_places
def m__law_looks : MS := mSeq (mRtn (mOp2 addD (mTup (mCons (mRet (.str "")) (mNil))) (mFn sem__law_places [] (mCons (mVar 0) (mNil)))))
  (mSkip)
def sem__law_looks : FSem := semOf 1 m__law_looks
def m__law_all_ages : MS := mSeq (mSet 1 (mLst (mCons (mTup (mNil)) (mNil))))
  (mSeq (mFor (mIt (mVar 0)) (.tup (.cons (.nm 2) (.cons (.nm 3) .nil))) (mSeq (mSet 4 (mLst (mNil)))
  (mSeq (mFor (mIt (mVar 1)) (.nm 5) (mSeq (mSet 4 (mOp2 addD (mVar 4) (mLs (mComp (mRng1 (mVar 3)) (.nm 6) [6] (mRet true) (mOp2 addD (mVar 5) (mTup (mCons (mVar 6) (mNil))))))))
  (mSkip)))
  (mSeq (mSet 1 (mVar 4))
  (mSkip)))))
  (mSeq (mRtn (mVar 1))
  (mSkip)))
def sem__law_all_ages : FSem := semOf 7 m__law_all_ages
def m__law_behind : MS := mSeq (mSet 3 (mTup (mNil)))
  (mSeq (mFor (mRng1 (mCall lenD (mCons (mBor 0) (mNil)))) (.nm 4) (mSeq (mSet 5 (mIf (mCmpT eqD (mIxS (mIxS (mBor 0) (mVar 4)) (mRet (.int 0))) (mBor 2)) (mRet (.int 0)) (mOp2 addD (mIxS (mBor 1) (mVar 4)) (mRet (.int 1)))))
  (mSeq (mIfS (mCmpT geD (mBor 5) (mIxS (mIxS (mBor 0) (mVar 4)) (mRet (.int 1)))) (mSeq (mRtn (mRet .non))
  (mSkip)) (mSkip))
  (mSeq (mSet 3 (mOp2 addD (mVar 3) (mTup (mCons (mVar 5) (mNil)))))
  (mSkip)))))
  (mSeq (mRtn (mVar 3))
  (mSkip)))
def sem__law_behind : FSem := semOf 6 m__law_behind
def m__law_ways : MS := mSeq (mSetO 1 (mRet (.dct [])))
  (mSeq (mFor (mIt (mFn sem__law_all_ages [] (mCons (mVar 0) (mNil)))) (.nm 2) (mSeq (mSet 3 (mLs (mComp (mIt (mFn sem__law_looks [] (mCons (mVar 0) (mNil)))) (.nm 4) [4] (mRet true) (mTup (mCons (mVar 4) (mCons (mFn sem__law_behind [] (mCons (mVar 0) (mCons (mVar 2) (mCons (mVar 4) (mNil))))) (mNil)))))))
  (mSeq (mPut 1 (mVar 2) (mLs (mComp (mIt (mVar 3)) (.nm 5) [5] (mIsNT false (mIxS (mBor 5) (mRet (.int 1)))) (mVar 5))))
  (mSkip))))
  (mSeq (mFrz 1) (mSeq (mRtn (mVar 1))
  (mSkip))))
def sem__law_ways : FSem := semOf 6 m__law_ways
def m__law_safe : MS := mSeq (mSet 1 (mFn sem__law_ways [] (mCons (mVar 0) (mNil))))
  (mSeq (mSet 2 (mCall listD2 (mCons (mBor 1) (mNil))))
  (mSeq (mFor (mRng1 (mOp2 addD (mCall lenD (mCons (mBor 2) (mNil))) (mRet (.int 1)))) (.nm 3) (mSeq (mSetO 4 (mRet (.dct [])))
  (mSeq (mFor (mIt (mVar 2)) (.nm 5) (mSeq (mPut 4 (mVar 5) (mRet (.bl true)))
  (mSkip)))
  (mSeq (mSet 6 (mLs (mComp (mIt (mVar 2)) (.nm 5) [5] (mCmpT neD (mLs (mComp (mIt (mIxS (mBor 1) (mVar 5))) (.tup (.cons (.nm 7) (.cons (.nm 8) .nil))) [7, 8] (mCmpT (memD false) (mVar 8) (mBor 4)) (mVar 8))) (mLst (mNil))) (mVar 5))))
  (mSeq (mIfS (mCmpT eqD (mCall lenD (mCons (mBor 6) (mNil))) (mCall lenD (mCons (mBor 2) (mNil)))) (mSeq (mRtn (mVar 2))
  (mSkip)) (mSkip))
  (mSeq (mSet 2 (mVar 6))
  (mSkip)))))))
  (mSeq (mRtn (mVar 2))
  (mSkip))))
def sem__law_safe : FSem := semOf 9 m__law_safe
def m__law_nothing : MS := mSeq (mRtn (mOp2 mulD (mTup (mCons (mRet (.int 0)) (mNil))) (mCall lenD (mCons (mBor 0) (mNil)))))
  (mSkip)
def sem__law_nothing : FSem := semOf 1 m__law_nothing
def m__law_gaps : MS := mSeq (mSetO 2 (mObL (mLN (mNil))))
  (mSeq (mFor (mIt (mFn sem__law_places [] (mCons (mVar 0) (mNil)))) (.nm 3) (mSeq (mSet 4 (mLs (mComp (mRng1 (mCall lenD (mCons (mBor 1) (mNil)))) (.nm 6) [6] (mCmpT eqD (mIxS (mBor 1) (mVar 6)) (mBor 3)) (mVar 6))))
  (mSeq (mSet 5 (mLs (mComp (mRng1 (mCall lenD (mCons (mBor 4) (mNil)))) (.nm 6) [6] (mRet true) (mIf (mCmpT gtD (mBor 6) (mRet (.int 0))) (mOp2 subD (mIxS (mBor 4) (mVar 6)) (mIxS (mBor 4) (mOp2 subD (mVar 6) (mRet (.int 1))))) (mOp2 subD (mOp2 addD (mIxS (mBor 4) (mRet (.int 0))) (mCall lenD (mCons (mBor 1) (mNil)))) (mIxS (mBor 4) (mNeg (mRet (.int 1)))))))))
  (mSeq (mApp 2 (mIf (mCmpT neD (mBor 5) (mLst (mNil))) (mCall maxD (mCons (mBor 5) (mNil))) (mRet .non)))
  (mSkip)))))
  (mSeq (mFrz 2) (mSeq (mRtn (mVar 2))
  (mSkip))))
def sem__law_gaps : FSem := semOf 7 m__law_gaps
def m__law_keeps_round : MS := mSeq (mIfS (mCmpT eqD (mBor 1) (mTup (mNil))) (mSeq (mRtn (mRet (.bl false)))
  (mSkip)) (mSkip))
  (mSeq (mSet 2 (mFn sem__law_gaps [] (mCons (mVar 0) (mCons (mVar 1) (mNil)))))
  (mSeq (mRtn (mCmp eqD (mLs (mComp (mRng1 (mCall lenD (mCons (mBor 0) (mNil)))) (.nm 3) [3] (mOrT (mIsNT true (mIxS (mBor 2) (mVar 3))) (mCmpT gtD (mIxS (mBor 2) (mVar 3)) (mIxS (mIxS (mBor 0) (mVar 3)) (mRet (.int 1))))) (mVar 3))) (mLst (mNil))))
  (mSkip)))
def sem__law_keeps_round : FSem := semOf 4 m__law_keeps_round
def m__law_ages : MS := mSeq (mRtn (mCall tupleD (mCons (mLs (mComp (mIt (mVar 1)) (.tup (.cons (.nm 2) (.cons (.nm 3) .nil))) [2, 3] (mRet true) (mFn sem__law_draw [] (mCons (mVar 0) (mCons (mVar 3) (mNil)))))) (mNil))))
  (mSkip)
def sem__law_ages : FSem := semOf 4 m__law_ages
def m__law_rule_look : MS := mSeq (mSet 3 (mRet .non))
  (mSeq (mFor (mRng1 (mCall lenD (mCons (mBor 0) (mNil)))) (.nm 4) (mSeq (mSetT (.tup (.cons (.nm 5) (.cons (.nm 6) .nil))) (mIxS (mBor 0) (mVar 4)))
  (mSeq (mSet 7 (mIf (mCmpT eqD (mBor 2) (mRet (.str "share"))) (mTup (mCons (mOp2 addD (mIxS (mBor 1) (mVar 4)) (mRet (.int 1))) (mCons (mVar 6) (mNil)))) (mIf (mCmpT eqD (mBor 2) (mRet (.str "oldest"))) (mTup (mCons (mIxS (mBor 1) (mVar 4)) (mCons (mRet (.int 1)) (mNil)))) (mTup (mCons (mOp2 subD (mIxS (mBor 1) (mVar 4)) (mVar 6)) (mCons (mRet (.int 1)) (mNil)))))))
  (mSeq (mIfS (mOrT (mIsNT true (mBor 3)) (mCmpT gtD (mOp2 mulD (mIxS (mBor 7) (mRet (.int 0))) (mIxS (mIxS (mBor 3) (mRet (.int 1))) (mRet (.int 1)))) (mOp2 mulD (mIxS (mIxS (mBor 3) (mRet (.int 1))) (mRet (.int 0))) (mIxS (mBor 7) (mRet (.int 1)))))) (mSeq (mSet 3 (mTup (mCons (mVar 5) (mCons (mVar 7) (mNil)))))
  (mSkip)) (mSkip))
  (mSkip)))))
  (mSeq (mRtn (mIxS (mBor 3) (mRet (.int 0))))
  (mSkip)))
def sem__law_rule_look : FSem := semOf 8 m__law_rule_look
def m__law_led : MS := mSeq (mPar [3, 4] (mSlO (mRet (.dct [])) (mSlV (mTup (mNil)) (mSl0))))
  (mSeq (mFor (mRng1 (mRet (.int 700))) (.nm 5) (mSeq (mIfS (mCmpT (memD false) (mVar 1) (mBor 3)) (mSeq (mRtn (mTup (mCons (mRet .non) (mCons (mSl (mVar 4) (mSome (mIxS (mBor 3) (mVar 1))) (mRet none)) (mNil)))))
  (mSkip)) (mSkip))
  (mSeq (mPut 3 (mVar 1) (mCall lenD (mCons (mBor 4) (mNil))))
  (mSeq (mSet 6 (mFn sem__law_rule_look [] (mCons (mVar 0) (mCons (mVar 1) (mCons (mVar 2) (mNil))))))
  (mSeq (mPar [1, 4] (mSlV (mFn sem__law_behind [] (mCons (mVar 0) (mCons (mVar 1) (mCons (mVar 6) (mNil))))) (mSlV (mOp2 addD (mVar 4) (mTup (mCons (mVar 6) (mNil)))) (mSl0))))
  (mSeq (mIfS (mIsNT true (mBor 1)) (mSeq (mRtn (mTup (mCons (mCall lenD (mCons (mBor 4) (mNil))) (mCons (mRet .non) (mNil)))))
  (mSkip)) (mSkip))
  (mSkip)))))))
  (mSeq (mRtn (mTup (mCons (mRet .non) (mCons (mRet .non) (mNil)))))
  (mSkip)))
def sem__law_led : FSem := semOf 7 m__law_led
def m__law_right : MS := mSeq (mSetT (.tup (.cons (.nm 1) (.cons (.nm 2) .nil))) (mTup (mCons (mFn sem__law_house [] (mCons (mVar 0) (mCons (mRet (.int 4)) (mCons (mRet (.int 100)) (mNil))))) (mCons (mFn sem__law_of [] (mCons (mVar 0) (mCons (mTup (mCons (mRet (.str "room")) (mCons (mRet (.str "share")) (mCons (mRet (.str "oldest")) (mNil))))) (mNil)))) (mNil)))))
  (mSeq (mSet 3 (mFn sem__law_safe [] (mCons (mVar 1) (mNil))))
  (mSeq (mFor (mIt (mTup (mCons (mFn sem__law_nothing [] (mCons (mVar 1) (mNil))) (mCons (mFn sem__law_ages [] (mCons (mVar 0) (mCons (mVar 1) (mNil)))) (mCons (mFn sem__law_ages [] (mCons (mVar 0) (mCons (mVar 1) (mNil)))) (mNil)))))) (.nm 4) (mSeq (mSet 6 (mFn sem__law_rule_look [] (mCons (mVar 1) (mCons (mVar 4) (mCons (mVar 2) (mNil))))))
  (mSeq (mIfS (mCmpT neD (mLst (mCons (mFn sem_rule_look [] (mCons (mVar 1) (mCons (mVar 4) (mCons (mVar 2) (mNil))))) (mCons (mFnK (sem_rule_look) (mCons (mVar 1) (mCons (mVar 4) (mNil))) (mCons (mVar 2) (mNil))) (mNil)))) (mLst (mCons (mVar 6) (mCons (mVar 6) (mNil))))) (mSeq (mRtn (mRet (.bl false)))
  (mSkip)) (mSkip))
  (mSeq (mSetT (.tup (.cons (.nm 7) (.cons (.nm 8) .nil))) (mFn sem__law_led [] (mCons (mVar 1) (mCons (mVar 4) (mCons (mVar 2) (mNil))))))
  (mSeq (mIfS (mAndT (mIsNT true (mBor 7)) (mCmpT (memD true) (mVar 4) (mBor 3))) (mSeq (mRtn (mRet (.bl false)))
  (mSkip)) (mSkip))
  (mSeq (mIfS (mNotT (mTru (mFn sem__law_same [] (mCons (mTup (mCons (mFn sem_breaks_by [] (mCons (mVar 1) (mCons (mVar 4) (mCons (mVar 2) (mNil))))) (mCons (mFnK (sem_breaks_by) (mCons (mVar 1) (mCons (mVar 4) (mNil))) (mCons (mVar 2) (mNil))) (mNil)))) (mCons (mTup (mCons (mVar 7) (mCons (mVar 7) (mNil)))) (mNil)))))) (mSeq (mRtn (mRet (.bl false)))
  (mSkip)) (mSkip))
  (mSeq (mIfS (mNotT (mTru (mFn sem__law_same [] (mCons (mTup (mCons (mFn sem_rule_ring [] (mCons (mVar 1) (mCons (mVar 4) (mCons (mVar 2) (mNil))))) (mCons (mFnK (sem_rule_ring) (mCons (mVar 1) (mCons (mVar 4) (mNil))) (mCons (mVar 2) (mNil))) (mNil)))) (mCons (mTup (mCons (mVar 8) (mCons (mVar 8) (mNil)))) (mNil)))))) (mSeq (mRtn (mRet (.bl false)))
  (mSkip)) (mSkip))
  (mSeq (mIfS (mAndT (mIsNT false (mBor 8)) (mNotT (mTru (mFn sem__law_keeps_round [] (mCons (mVar 1) (mCons (mVar 8) (mNil))))))) (mSeq (mRtn (mRet (.bl false)))
  (mSkip)) (mSkip))
  (mSkip)))))))))
  (mSeq (mSet 5 (mCall lenD (mCons (mLs (mComp (mIt (mFn sem__law_all_ages [] (mCons (mVar 1) (mNil)))) (.nm 4) [4] (mIsNT true (mIxS (mFn sem__law_led [] (mCons (mVar 1) (mCons (mVar 4) (mCons (mVar 2) (mNil))))) (mRet (.int 0)))) (mVar 4))) (mNil))))
  (mSeq (mRtn (mFn sem__law_same [] (mCons (mTup (mCons (mFn sem_kept_by_rule [] (mCons (mVar 1) (mCons (mVar 2) (mNil)))) (mCons (mFnK (sem_kept_by_rule) (mCons (mVar 1) (mNil)) (mCons (mVar 2) (mNil))) (mNil)))) (mCons (mTup (mCons (mVar 5) (mCons (mVar 5) (mNil)))) (mNil)))))
  (mSkip)))))
def sem__law_right : FSem := semOf 9 m__law_right
def m_law : MS := mSeq (mSet 1 (mLs (mComp (mRng1 (mRet (.int 2))) (.nm 2) [2] (mRet true) (mFn sem__law_well [] (mCons (mVar 0) (mCons (mVar 2) (mNil)))))))
  (mSeq (mRtn (mCall allD (mCons (mLs (mComp (mRng1 (mRet (.int 16))) (.nm 3) [3] (mRet true) (mFn sem__law_right [] (mCons (mIxS (mBor 1) (mOp2 modD (mCall intD (mCons (mBor 3) (mNil))) (mRet (.int 2)))) (mNil))))) (mNil))))
  (mSkip))
def sem_law : FSem := semOf 4 m_law
theorem d1_LONGEST_NAME : (("LONGEST_NAME" : PySem.Str) == ("__debug__" : PySem.Str)) = false := by decide +kernel
theorem d2_LONGEST_NAME : (("LONGEST_NAME" : PySem.Str) == ("__classdict__" : PySem.Str)) = false := by decide +kernel
theorem d1_MOST_AGES : (("MOST_AGES" : PySem.Str) == ("__debug__" : PySem.Str)) = false := by decide +kernel
theorem d2_MOST_AGES : (("MOST_AGES" : PySem.Str) == ("__classdict__" : PySem.Str)) = false := by decide +kernel
theorem d1_MOST_LIMIT : (("MOST_LIMIT" : PySem.Str) == ("__debug__" : PySem.Str)) = false := by decide +kernel
theorem d2_MOST_LIMIT : (("MOST_LIMIT" : PySem.Str) == ("__classdict__" : PySem.Str)) = false := by decide +kernel
theorem d1_MOST_PLACES : (("MOST_PLACES" : PySem.Str) == ("__debug__" : PySem.Str)) = false := by decide +kernel
theorem d2_MOST_PLACES : (("MOST_PLACES" : PySem.Str) == ("__classdict__" : PySem.Str)) = false := by decide +kernel
theorem d1_SMALL_LETTERS : (("SMALL_LETTERS" : PySem.Str) == ("__debug__" : PySem.Str)) = false := by decide +kernel
theorem d2_SMALL_LETTERS : (("SMALL_LETTERS" : PySem.Str) == ("__classdict__" : PySem.Str)) = false := by decide +kernel
theorem d1_WAYS : (("WAYS" : PySem.Str) == ("__debug__" : PySem.Str)) = false := by decide +kernel
theorem d2_WAYS : (("WAYS" : PySem.Str) == ("__classdict__" : PySem.Str)) = false := by decide +kernel
theorem d1_WORDS : (("WORDS" : PySem.Str) == ("__debug__" : PySem.Str)) = false := by decide +kernel
theorem d2_WORDS : (("WORDS" : PySem.Str) == ("__classdict__" : PySem.Str)) = false := by decide +kernel
theorem d1__law_ages : (("_law_ages" : PySem.Str) == ("__debug__" : PySem.Str)) = false := by decide +kernel
theorem d2__law_ages : (("_law_ages" : PySem.Str) == ("__classdict__" : PySem.Str)) = false := by decide +kernel
theorem d1__law_all_ages : (("_law_all_ages" : PySem.Str) == ("__debug__" : PySem.Str)) = false := by decide +kernel
theorem d2__law_all_ages : (("_law_all_ages" : PySem.Str) == ("__classdict__" : PySem.Str)) = false := by decide +kernel
theorem d1__law_behind : (("_law_behind" : PySem.Str) == ("__debug__" : PySem.Str)) = false := by decide +kernel
theorem d2__law_behind : (("_law_behind" : PySem.Str) == ("__classdict__" : PySem.Str)) = false := by decide +kernel
theorem d1__law_draw : (("_law_draw" : PySem.Str) == ("__debug__" : PySem.Str)) = false := by decide +kernel
theorem d2__law_draw : (("_law_draw" : PySem.Str) == ("__classdict__" : PySem.Str)) = false := by decide +kernel
theorem d1__law_gaps : (("_law_gaps" : PySem.Str) == ("__debug__" : PySem.Str)) = false := by decide +kernel
theorem d2__law_gaps : (("_law_gaps" : PySem.Str) == ("__classdict__" : PySem.Str)) = false := by decide +kernel
theorem d1__law_house : (("_law_house" : PySem.Str) == ("__debug__" : PySem.Str)) = false := by decide +kernel
theorem d2__law_house : (("_law_house" : PySem.Str) == ("__classdict__" : PySem.Str)) = false := by decide +kernel
theorem d1__law_keeps_round : (("_law_keeps_round" : PySem.Str) == ("__debug__" : PySem.Str)) = false := by decide +kernel
theorem d2__law_keeps_round : (("_law_keeps_round" : PySem.Str) == ("__classdict__" : PySem.Str)) = false := by decide +kernel
theorem d1__law_led : (("_law_led" : PySem.Str) == ("__debug__" : PySem.Str)) = false := by decide +kernel
theorem d2__law_led : (("_law_led" : PySem.Str) == ("__classdict__" : PySem.Str)) = false := by decide +kernel
theorem d1__law_looks : (("_law_looks" : PySem.Str) == ("__debug__" : PySem.Str)) = false := by decide +kernel
theorem d2__law_looks : (("_law_looks" : PySem.Str) == ("__classdict__" : PySem.Str)) = false := by decide +kernel
theorem d1__law_names : (("_law_names" : PySem.Str) == ("__debug__" : PySem.Str)) = false := by decide +kernel
theorem d2__law_names : (("_law_names" : PySem.Str) == ("__classdict__" : PySem.Str)) = false := by decide +kernel
theorem d1__law_nothing : (("_law_nothing" : PySem.Str) == ("__debug__" : PySem.Str)) = false := by decide +kernel
theorem d2__law_nothing : (("_law_nothing" : PySem.Str) == ("__classdict__" : PySem.Str)) = false := by decide +kernel
theorem d1__law_of : (("_law_of" : PySem.Str) == ("__debug__" : PySem.Str)) = false := by decide +kernel
theorem d2__law_of : (("_law_of" : PySem.Str) == ("__classdict__" : PySem.Str)) = false := by decide +kernel
theorem d1__law_places : (("_law_places" : PySem.Str) == ("__debug__" : PySem.Str)) = false := by decide +kernel
theorem d2__law_places : (("_law_places" : PySem.Str) == ("__classdict__" : PySem.Str)) = false := by decide +kernel
theorem d1__law_right : (("_law_right" : PySem.Str) == ("__debug__" : PySem.Str)) = false := by decide +kernel
theorem d2__law_right : (("_law_right" : PySem.Str) == ("__classdict__" : PySem.Str)) = false := by decide +kernel
theorem d1__law_rule_look : (("_law_rule_look" : PySem.Str) == ("__debug__" : PySem.Str)) = false := by decide +kernel
theorem d2__law_rule_look : (("_law_rule_look" : PySem.Str) == ("__classdict__" : PySem.Str)) = false := by decide +kernel
theorem d1__law_safe : (("_law_safe" : PySem.Str) == ("__debug__" : PySem.Str)) = false := by decide +kernel
theorem d2__law_safe : (("_law_safe" : PySem.Str) == ("__classdict__" : PySem.Str)) = false := by decide +kernel
theorem d1__law_same : (("_law_same" : PySem.Str) == ("__debug__" : PySem.Str)) = false := by decide +kernel
theorem d2__law_same : (("_law_same" : PySem.Str) == ("__classdict__" : PySem.Str)) = false := by decide +kernel
theorem d1__law_ways : (("_law_ways" : PySem.Str) == ("__debug__" : PySem.Str)) = false := by decide +kernel
theorem d2__law_ways : (("_law_ways" : PySem.Str) == ("__classdict__" : PySem.Str)) = false := by decide +kernel
theorem d1__law_well : (("_law_well" : PySem.Str) == ("__debug__" : PySem.Str)) = false := by decide +kernel
theorem d2__law_well : (("_law_well" : PySem.Str) == ("__classdict__" : PySem.Str)) = false := by decide +kernel
theorem d1_abs : (("abs" : PySem.Str) == ("__debug__" : PySem.Str)) = false := by decide +kernel
theorem d2_abs : (("abs" : PySem.Str) == ("__classdict__" : PySem.Str)) = false := by decide +kernel
theorem d1_age : (("age" : PySem.Str) == ("__debug__" : PySem.Str)) = false := by decide +kernel
theorem d2_age : (("age" : PySem.Str) == ("__classdict__" : PySem.Str)) = false := by decide +kernel
theorem d1_aged : (("aged" : PySem.Str) == ("__debug__" : PySem.Str)) = false := by decide +kernel
theorem d2_aged : (("aged" : PySem.Str) == ("__classdict__" : PySem.Str)) = false := by decide +kernel
theorem d1_ages : (("ages" : PySem.Str) == ("__debug__" : PySem.Str)) = false := by decide +kernel
theorem d2_ages : (("ages" : PySem.Str) == ("__classdict__" : PySem.Str)) = false := by decide +kernel
theorem d1_ages_after : (("ages_after" : PySem.Str) == ("__debug__" : PySem.Str)) = false := by decide +kernel
theorem d2_ages_after : (("ages_after" : PySem.Str) == ("__classdict__" : PySem.Str)) = false := by decide +kernel
theorem d1_all : (("all" : PySem.Str) == ("__debug__" : PySem.Str)) = false := by decide +kernel
theorem d2_all : (("all" : PySem.Str) == ("__classdict__" : PySem.Str)) = false := by decide +kernel
theorem d1_all_ages : (("all_ages" : PySem.Str) == ("__debug__" : PySem.Str)) = false := by decide +kernel
theorem d2_all_ages : (("all_ages" : PySem.Str) == ("__classdict__" : PySem.Str)) = false := by decide +kernel
theorem d1_all_below : (("all_below" : PySem.Str) == ("__debug__" : PySem.Str)) = false := by decide +kernel
theorem d2_all_below : (("all_below" : PySem.Str) == ("__classdict__" : PySem.Str)) = false := by decide +kernel
theorem d1_at : (("at" : PySem.Str) == ("__debug__" : PySem.Str)) = false := by decide +kernel
theorem d2_at : (("at" : PySem.Str) == ("__classdict__" : PySem.Str)) = false := by decide +kernel
theorem d1_best : (("best" : PySem.Str) == ("__debug__" : PySem.Str)) = false := by decide +kernel
theorem d2_best : (("best" : PySem.Str) == ("__classdict__" : PySem.Str)) = false := by decide +kernel
theorem d1_breaks_by : (("breaks_by" : PySem.Str) == ("__debug__" : PySem.Str)) = false := by decide +kernel
theorem d2_breaks_by : (("breaks_by" : PySem.Str) == ("__classdict__" : PySem.Str)) = false := by decide +kernel
theorem d1_cell : (("cell" : PySem.Str) == ("__debug__" : PySem.Str)) = false := by decide +kernel
theorem d2_cell : (("cell" : PySem.Str) == ("__classdict__" : PySem.Str)) = false := by decide +kernel
theorem d1_check_ages : (("check_ages" : PySem.Str) == ("__debug__" : PySem.Str)) = false := by decide +kernel
theorem d2_check_ages : (("check_ages" : PySem.Str) == ("__classdict__" : PySem.Str)) = false := by decide +kernel
theorem d1_check_house : (("check_house" : PySem.Str) == ("__debug__" : PySem.Str)) = false := by decide +kernel
theorem d2_check_house : (("check_house" : PySem.Str) == ("__classdict__" : PySem.Str)) = false := by decide +kernel
theorem d1_check_ruled : (("check_ruled" : PySem.Str) == ("__debug__" : PySem.Str)) = false := by decide +kernel
theorem d2_check_ruled : (("check_ruled" : PySem.Str) == ("__classdict__" : PySem.Str)) = false := by decide +kernel
theorem d1_check_way : (("check_way" : PySem.Str) == ("__debug__" : PySem.Str)) = false := by decide +kernel
theorem d2_check_way : (("check_way" : PySem.Str) == ("__classdict__" : PySem.Str)) = false := by decide +kernel
theorem d1_digit : (("digit" : PySem.Str) == ("__debug__" : PySem.Str)) = false := by decide +kernel
theorem d2_digit : (("digit" : PySem.Str) == ("__classdict__" : PySem.Str)) = false := by decide +kernel
theorem d1_divmod : (("divmod" : PySem.Str) == ("__debug__" : PySem.Str)) = false := by decide +kernel
theorem d2_divmod : (("divmod" : PySem.Str) == ("__classdict__" : PySem.Str)) = false := by decide +kernel
theorem d1_first : (("first" : PySem.Str) == ("__debug__" : PySem.Str)) = false := by decide +kernel
theorem d2_first : (("first" : PySem.Str) == ("__classdict__" : PySem.Str)) = false := by decide +kernel
theorem d1_found : (("found" : PySem.Str) == ("__debug__" : PySem.Str)) = false := by decide +kernel
theorem d2_found : (("found" : PySem.Str) == ("__classdict__" : PySem.Str)) = false := by decide +kernel
theorem d1_gaps : (("gaps" : PySem.Str) == ("__debug__" : PySem.Str)) = false := by decide +kernel
theorem d2_gaps : (("gaps" : PySem.Str) == ("__classdict__" : PySem.Str)) = false := by decide +kernel
theorem d1_here : (("here" : PySem.Str) == ("__debug__" : PySem.Str)) = false := by decide +kernel
theorem d2_here : (("here" : PySem.Str) == ("__classdict__" : PySem.Str)) = false := by decide +kernel
theorem d1_high : (("high" : PySem.Str) == ("__debug__" : PySem.Str)) = false := by decide +kernel
theorem d2_high : (("high" : PySem.Str) == ("__classdict__" : PySem.Str)) = false := by decide +kernel
theorem d1_house : (("house" : PySem.Str) == ("__debug__" : PySem.Str)) = false := by decide +kernel
theorem d2_house : (("house" : PySem.Str) == ("__classdict__" : PySem.Str)) = false := by decide +kernel
theorem d1_index : (("index" : PySem.Str) == ("__debug__" : PySem.Str)) = false := by decide +kernel
theorem d2_index : (("index" : PySem.Str) == ("__classdict__" : PySem.Str)) = false := by decide +kernel
theorem d1_int : (("int" : PySem.Str) == ("__debug__" : PySem.Str)) = false := by decide +kernel
theorem d2_int : (("int" : PySem.Str) == ("__classdict__" : PySem.Str)) = false := by decide +kernel
theorem d1_is_ascending : (("is_ascending" : PySem.Str) == ("__debug__" : PySem.Str)) = false := by decide +kernel
theorem d2_is_ascending : (("is_ascending" : PySem.Str) == ("__classdict__" : PySem.Str)) = false := by decide +kernel
theorem d1_is_house_form : (("is_house_form" : PySem.Str) == ("__debug__" : PySem.Str)) = false := by decide +kernel
theorem d2_is_house_form : (("is_house_form" : PySem.Str) == ("__classdict__" : PySem.Str)) = false := by decide +kernel
theorem d1_is_in : (("is_in" : PySem.Str) == ("__debug__" : PySem.Str)) = false := by decide +kernel
theorem d2_is_in : (("is_in" : PySem.Str) == ("__classdict__" : PySem.Str)) = false := by decide +kernel
theorem d1_is_less : (("is_less" : PySem.Str) == ("__debug__" : PySem.Str)) = false := by decide +kernel
theorem d2_is_less : (("is_less" : PySem.Str) == ("__classdict__" : PySem.Str)) = false := by decide +kernel
theorem d1_is_limit : (("is_limit" : PySem.Str) == ("__debug__" : PySem.Str)) = false := by decide +kernel
theorem d2_is_limit : (("is_limit" : PySem.Str) == ("__classdict__" : PySem.Str)) = false := by decide +kernel
theorem d1_is_made_of : (("is_made_of" : PySem.Str) == ("__debug__" : PySem.Str)) = false := by decide +kernel
theorem d2_is_made_of : (("is_made_of" : PySem.Str) == ("__classdict__" : PySem.Str)) = false := by decide +kernel
theorem d1_is_name : (("is_name" : PySem.Str) == ("__debug__" : PySem.Str)) = false := by decide +kernel
theorem d2_is_name : (("is_name" : PySem.Str) == ("__classdict__" : PySem.Str)) = false := by decide +kernel
theorem d1_is_number : (("is_number" : PySem.Str) == ("__debug__" : PySem.Str)) = false := by decide +kernel
theorem d2_is_number : (("is_number" : PySem.Str) == ("__classdict__" : PySem.Str)) = false := by decide +kernel
theorem d1_is_pair_of_house : (("is_pair_of_house" : PySem.Str) == ("__debug__" : PySem.Str)) = false := by decide +kernel
theorem d2_is_pair_of_house : (("is_pair_of_house" : PySem.Str) == ("__classdict__" : PySem.Str)) = false := by decide +kernel
theorem d1_is_string : (("is_string" : PySem.Str) == ("__debug__" : PySem.Str)) = false := by decide +kernel
theorem d2_is_string : (("is_string" : PySem.Str) == ("__classdict__" : PySem.Str)) = false := by decide +kernel
theorem d1_is_tuple_of : (("is_tuple_of" : PySem.Str) == ("__debug__" : PySem.Str)) = false := by decide +kernel
theorem d2_is_tuple_of : (("is_tuple_of" : PySem.Str) == ("__classdict__" : PySem.Str)) = false := by decide +kernel
theorem d1_is_whole : (("is_whole" : PySem.Str) == ("__debug__" : PySem.Str)) = false := by decide +kernel
theorem d2_is_whole : (("is_whole" : PySem.Str) == ("__classdict__" : PySem.Str)) = false := by decide +kernel
theorem d1_is_word : (("is_word" : PySem.Str) == ("__debug__" : PySem.Str)) = false := by decide +kernel
theorem d2_is_word : (("is_word" : PySem.Str) == ("__classdict__" : PySem.Str)) = false := by decide +kernel
theorem d1_k : (("k" : PySem.Str) == ("__debug__" : PySem.Str)) = false := by decide +kernel
theorem d2_k : (("k" : PySem.Str) == ("__classdict__" : PySem.Str)) = false := by decide +kernel
theorem d1_keep_limits : (("keep_limits" : PySem.Str) == ("__debug__" : PySem.Str)) = false := by decide +kernel
theorem d2_keep_limits : (("keep_limits" : PySem.Str) == ("__classdict__" : PySem.Str)) = false := by decide +kernel
theorem d1_kept : (("kept" : PySem.Str) == ("__debug__" : PySem.Str)) = false := by decide +kernel
theorem d2_kept : (("kept" : PySem.Str) == ("__classdict__" : PySem.Str)) = false := by decide +kernel
theorem d1_kept_by_rule : (("kept_by_rule" : PySem.Str) == ("__debug__" : PySem.Str)) = false := by decide +kernel
theorem d2_kept_by_rule : (("kept_by_rule" : PySem.Str) == ("__classdict__" : PySem.Str)) = false := by decide +kernel
theorem d1_lap : (("lap" : PySem.Str) == ("__debug__" : PySem.Str)) = false := by decide +kernel
theorem d2_lap : (("lap" : PySem.Str) == ("__classdict__" : PySem.Str)) = false := by decide +kernel
theorem d1_led_by : (("led_by" : PySem.Str) == ("__debug__" : PySem.Str)) = false := by decide +kernel
theorem d2_led_by : (("led_by" : PySem.Str) == ("__classdict__" : PySem.Str)) = false := by decide +kernel
theorem d1_left : (("left" : PySem.Str) == ("__debug__" : PySem.Str)) = false := by decide +kernel
theorem d2_left : (("left" : PySem.Str) == ("__classdict__" : PySem.Str)) = false := by decide +kernel
theorem d1_len : (("len" : PySem.Str) == ("__debug__" : PySem.Str)) = false := by decide +kernel
theorem d2_len : (("len" : PySem.Str) == ("__classdict__" : PySem.Str)) = false := by decide +kernel
theorem d1_letters : (("letters" : PySem.Str) == ("__debug__" : PySem.Str)) = false := by decide +kernel
theorem d2_letters : (("letters" : PySem.Str) == ("__classdict__" : PySem.Str)) = false := by decide +kernel
theorem d1_limit : (("limit" : PySem.Str) == ("__debug__" : PySem.Str)) = false := by decide +kernel
theorem d2_limit : (("limit" : PySem.Str) == ("__classdict__" : PySem.Str)) = false := by decide +kernel
theorem d1_limits : (("limits" : PySem.Str) == ("__debug__" : PySem.Str)) = false := by decide +kernel
theorem d2_limits : (("limits" : PySem.Str) == ("__classdict__" : PySem.Str)) = false := by decide +kernel
theorem d1_limits_in : (("limits_in" : PySem.Str) == ("__debug__" : PySem.Str)) = false := by decide +kernel
theorem d2_limits_in : (("limits_in" : PySem.Str) == ("__classdict__" : PySem.Str)) = false := by decide +kernel
theorem d1_list : (("list" : PySem.Str) == ("__debug__" : PySem.Str)) = false := by decide +kernel
theorem d2_list : (("list" : PySem.Str) == ("__classdict__" : PySem.Str)) = false := by decide +kernel
theorem d1_look : (("look" : PySem.Str) == ("__debug__" : PySem.Str)) = false := by decide +kernel
theorem d2_look : (("look" : PySem.Str) == ("__classdict__" : PySem.Str)) = false := by decide +kernel
theorem d1_look_by : (("look_by" : PySem.Str) == ("__debug__" : PySem.Str)) = false := by decide +kernel
theorem d2_look_by : (("look_by" : PySem.Str) == ("__classdict__" : PySem.Str)) = false := by decide +kernel
theorem d1_looks : (("looks" : PySem.Str) == ("__debug__" : PySem.Str)) = false := by decide +kernel
theorem d2_looks : (("looks" : PySem.Str) == ("__classdict__" : PySem.Str)) = false := by decide +kernel
theorem d1_low : (("low" : PySem.Str) == ("__debug__" : PySem.Str)) = false := by decide +kernel
theorem d2_low : (("low" : PySem.Str) == ("__classdict__" : PySem.Str)) = false := by decide +kernel
theorem d1_many : (("many" : PySem.Str) == ("__debug__" : PySem.Str)) = false := by decide +kernel
theorem d2_many : (("many" : PySem.Str) == ("__classdict__" : PySem.Str)) = false := by decide +kernel
theorem d1_max : (("max" : PySem.Str) == ("__debug__" : PySem.Str)) = false := by decide +kernel
theorem d2_max : (("max" : PySem.Str) == ("__classdict__" : PySem.Str)) = false := by decide +kernel
theorem d1_more : (("more" : PySem.Str) == ("__debug__" : PySem.Str)) = false := by decide +kernel
theorem d2_more : (("more" : PySem.Str) == ("__classdict__" : PySem.Str)) = false := by decide +kernel
theorem d1_most : (("most" : PySem.Str) == ("__debug__" : PySem.Str)) = false := by decide +kernel
theorem d2_most : (("most" : PySem.Str) == ("__classdict__" : PySem.Str)) = false := by decide +kernel
theorem d1_name : (("name" : PySem.Str) == ("__debug__" : PySem.Str)) = false := by decide +kernel
theorem d2_name : (("name" : PySem.Str) == ("__classdict__" : PySem.Str)) = false := by decide +kernel
theorem d1_names : (("names" : PySem.Str) == ("__debug__" : PySem.Str)) = false := by decide +kernel
theorem d2_names : (("names" : PySem.Str) == ("__classdict__" : PySem.Str)) = false := by decide +kernel
theorem d1_names_of : (("names_of" : PySem.Str) == ("__debug__" : PySem.Str)) = false := by decide +kernel
theorem d2_names_of : (("names_of" : PySem.Str) == ("__classdict__" : PySem.Str)) = false := by decide +kernel
theorem d1_new : (("new" : PySem.Str) == ("__debug__" : PySem.Str)) = false := by decide +kernel
theorem d2_new : (("new" : PySem.Str) == ("__classdict__" : PySem.Str)) = false := by decide +kernel
theorem d1_number : (("number" : PySem.Str) == ("__debug__" : PySem.Str)) = false := by decide +kernel
theorem d2_number : (("number" : PySem.Str) == ("__classdict__" : PySem.Str)) = false := by decide +kernel
theorem d1_numbers : (("numbers" : PySem.Str) == ("__debug__" : PySem.Str)) = false := by decide +kernel
theorem d2_numbers : (("numbers" : PySem.Str) == ("__classdict__" : PySem.Str)) = false := by decide +kernel
theorem d1_one : (("one" : PySem.Str) == ("__debug__" : PySem.Str)) = false := by decide +kernel
theorem d2_one : (("one" : PySem.Str) == ("__classdict__" : PySem.Str)) = false := by decide +kernel
theorem d1_own : (("own" : PySem.Str) == ("__debug__" : PySem.Str)) = false := by decide +kernel
theorem d2_own : (("own" : PySem.Str) == ("__classdict__" : PySem.Str)) = false := by decide +kernel
theorem d1_pair : (("pair" : PySem.Str) == ("__debug__" : PySem.Str)) = false := by decide +kernel
theorem d2_pair : (("pair" : PySem.Str) == ("__classdict__" : PySem.Str)) = false := by decide +kernel
theorem d1_place : (("place" : PySem.Str) == ("__debug__" : PySem.Str)) = false := by decide +kernel
theorem d2_place : (("place" : PySem.Str) == ("__classdict__" : PySem.Str)) = false := by decide +kernel
theorem d1_places : (("places" : PySem.Str) == ("__debug__" : PySem.Str)) = false := by decide +kernel
theorem d2_places : (("places" : PySem.Str) == ("__classdict__" : PySem.Str)) = false := by decide +kernel
theorem d1_product_of : (("product_of" : PySem.Str) == ("__debug__" : PySem.Str)) = false := by decide +kernel
theorem d2_product_of : (("product_of" : PySem.Str) == ("__classdict__" : PySem.Str)) = false := by decide +kernel
theorem d1_room : (("room" : PySem.Str) == ("__debug__" : PySem.Str)) = false := by decide +kernel
theorem d2_room : (("room" : PySem.Str) == ("__classdict__" : PySem.Str)) = false := by decide +kernel
theorem d1_row : (("row" : PySem.Str) == ("__debug__" : PySem.Str)) = false := by decide +kernel
theorem d2_row : (("row" : PySem.Str) == ("__classdict__" : PySem.Str)) = false := by decide +kernel
theorem d1_rule_look : (("rule_look" : PySem.Str) == ("__debug__" : PySem.Str)) = false := by decide +kernel
theorem d2_rule_look : (("rule_look" : PySem.Str) == ("__classdict__" : PySem.Str)) = false := by decide +kernel
theorem d1_rule_ring : (("rule_ring" : PySem.Str) == ("__debug__" : PySem.Str)) = false := by decide +kernel
theorem d2_rule_ring : (("rule_ring" : PySem.Str) == ("__classdict__" : PySem.Str)) = false := by decide +kernel
theorem d1_safe : (("safe" : PySem.Str) == ("__debug__" : PySem.Str)) = false := by decide +kernel
theorem d2_safe : (("safe" : PySem.Str) == ("__classdict__" : PySem.Str)) = false := by decide +kernel
theorem d1_script : (("script" : PySem.Str) == ("__debug__" : PySem.Str)) = false := by decide +kernel
theorem d2_script : (("script" : PySem.Str) == ("__classdict__" : PySem.Str)) = false := by decide +kernel
theorem d1_seen : (("seen" : PySem.Str) == ("__debug__" : PySem.Str)) = false := by decide +kernel
theorem d2_seen : (("seen" : PySem.Str) == ("__classdict__" : PySem.Str)) = false := by decide +kernel
theorem d1_sign : (("sign" : PySem.Str) == ("__debug__" : PySem.Str)) = false := by decide +kernel
theorem d2_sign : (("sign" : PySem.Str) == ("__classdict__" : PySem.Str)) = false := by decide +kernel
theorem d1_signs : (("signs" : PySem.Str) == ("__debug__" : PySem.Str)) = false := by decide +kernel
theorem d2_signs : (("signs" : PySem.Str) == ("__classdict__" : PySem.Str)) = false := by decide +kernel
theorem d1_some : (("some" : PySem.Str) == ("__debug__" : PySem.Str)) = false := by decide +kernel
theorem d2_some : (("some" : PySem.Str) == ("__classdict__" : PySem.Str)) = false := by decide +kernel
theorem d1_sorted : (("sorted" : PySem.Str) == ("__debug__" : PySem.Str)) = false := by decide +kernel
theorem d2_sorted : (("sorted" : PySem.Str) == ("__classdict__" : PySem.Str)) = false := by decide +kernel
theorem d1_stir : (("stir" : PySem.Str) == ("__debug__" : PySem.Str)) = false := by decide +kernel
theorem d2_stir : (("stir" : PySem.Str) == ("__classdict__" : PySem.Str)) = false := by decide +kernel
theorem d1_stirred : (("stirred" : PySem.Str) == ("__debug__" : PySem.Str)) = false := by decide +kernel
theorem d2_stirred : (("stirred" : PySem.Str) == ("__classdict__" : PySem.Str)) = false := by decide +kernel
theorem d1_text : (("text" : PySem.Str) == ("__debug__" : PySem.Str)) = false := by decide +kernel
theorem d2_text : (("text" : PySem.Str) == ("__classdict__" : PySem.Str)) = false := by decide +kernel
theorem d1_to : (("to" : PySem.Str) == ("__debug__" : PySem.Str)) = false := by decide +kernel
theorem d2_to : (("to" : PySem.Str) == ("__classdict__" : PySem.Str)) = false := by decide +kernel
theorem d1_tuple : (("tuple" : PySem.Str) == ("__debug__" : PySem.Str)) = false := by decide +kernel
theorem d2_tuple : (("tuple" : PySem.Str) == ("__classdict__" : PySem.Str)) = false := by decide +kernel
theorem d1_two : (("two" : PySem.Str) == ("__debug__" : PySem.Str)) = false := by decide +kernel
theorem d2_two : (("two" : PySem.Str) == ("__classdict__" : PySem.Str)) = false := by decide +kernel
theorem d1_urge : (("urge" : PySem.Str) == ("__debug__" : PySem.Str)) = false := by decide +kernel
theorem d2_urge : (("urge" : PySem.Str) == ("__classdict__" : PySem.Str)) = false := by decide +kernel
theorem d1_urge_of : (("urge_of" : PySem.Str) == ("__debug__" : PySem.Str)) = false := by decide +kernel
theorem d2_urge_of : (("urge_of" : PySem.Str) == ("__classdict__" : PySem.Str)) = false := by decide +kernel
theorem d1_urges : (("urges" : PySem.Str) == ("__debug__" : PySem.Str)) = false := by decide +kernel
theorem d2_urges : (("urges" : PySem.Str) == ("__classdict__" : PySem.Str)) = false := by decide +kernel
theorem d1_value : (("value" : PySem.Str) == ("__debug__" : PySem.Str)) = false := by decide +kernel
theorem d2_value : (("value" : PySem.Str) == ("__classdict__" : PySem.Str)) = false := by decide +kernel
theorem d1_way : (("way" : PySem.Str) == ("__debug__" : PySem.Str)) = false := by decide +kernel
theorem d2_way : (("way" : PySem.Str) == ("__classdict__" : PySem.Str)) = false := by decide +kernel
theorem d1_ways : (("ways" : PySem.Str) == ("__debug__" : PySem.Str)) = false := by decide +kernel
theorem d2_ways : (("ways" : PySem.Str) == ("__classdict__" : PySem.Str)) = false := by decide +kernel
theorem d1_well : (("well" : PySem.Str) == ("__debug__" : PySem.Str)) = false := by decide +kernel
theorem d2_well : (("well" : PySem.Str) == ("__classdict__" : PySem.Str)) = false := by decide +kernel
theorem d1_wells : (("wells" : PySem.Str) == ("__debug__" : PySem.Str)) = false := by decide +kernel
theorem d2_wells : (("wells" : PySem.Str) == ("__classdict__" : PySem.Str)) = false := by decide +kernel
theorem d1_whole : (("whole" : PySem.Str) == ("__debug__" : PySem.Str)) = false := by decide +kernel
theorem d2_whole : (("whole" : PySem.Str) == ("__classdict__" : PySem.Str)) = false := by decide +kernel
theorem d1_words : (("words" : PySem.Str) == ("__debug__" : PySem.Str)) = false := by decide +kernel
theorem d2_words : (("words" : PySem.Str) == ("__classdict__" : PySem.Str)) = false := by decide +kernel
theorem d1_worth : (("worth" : PySem.Str) == ("__debug__" : PySem.Str)) = false := by decide +kernel
theorem d2_worth : (("worth" : PySem.Str) == ("__classdict__" : PySem.Str)) = false := by decide +kernel
theorem d1_wrong : (("wrong" : PySem.Str) == ("__debug__" : PySem.Str)) = false := by decide +kernel
theorem d2_wrong : (("wrong" : PySem.Str) == ("__classdict__" : PySem.Str)) = false := by decide +kernel
theorem d1_wrong_ages : (("wrong_ages" : PySem.Str) == ("__debug__" : PySem.Str)) = false := by decide +kernel
theorem d2_wrong_ages : (("wrong_ages" : PySem.Str) == ("__classdict__" : PySem.Str)) = false := by decide +kernel
structure G (B : Bd) : Prop where
  f_is_whole : ∃ f fd, B.mg "is_whole" = some (.ref f) ∧ FunD B.K "is_whole" "is_whole" (defArgs (top 9)) (defBody (top 9)) (defScope (top 9)) [] [] f fd
  f_is_number : ∃ f fd, B.mg "is_number" = some (.ref f) ∧ FunD B.K "is_number" "is_number" (defArgs (top 10)) (defBody (top 10)) (defScope (top 10)) [.non] [] f fd
  f_is_string : ∃ f fd, B.mg "is_string" = some (.ref f) ∧ FunD B.K "is_string" "is_string" (defArgs (top 11)) (defBody (top 11)) (defScope (top 11)) [] [] f fd
  f_is_made_of : ∃ f fd, B.mg "is_made_of" = some (.ref f) ∧ FunD B.K "is_made_of" "is_made_of" (defArgs (top 12)) (defBody (top 12)) (defScope (top 12)) [] [] f fd
  f_is_word : ∃ f fd, B.mg "is_word" = some (.ref f) ∧ FunD B.K "is_word" "is_word" (defArgs (top 13)) (defBody (top 13)) (defScope (top 13)) [] [] f fd
  f_is_name : ∃ f fd, B.mg "is_name" = some (.ref f) ∧ FunD B.K "is_name" "is_name" (defArgs (top 14)) (defBody (top 14)) (defScope (top 14)) [] [] f fd
  f_is_tuple_of : ∃ f fd, B.mg "is_tuple_of" = some (.ref f) ∧ FunD B.K "is_tuple_of" "is_tuple_of" (defArgs (top 15)) (defBody (top 15)) (defScope (top 15)) [] [] f fd
  f_is_in : ∃ f fd, B.mg "is_in" = some (.ref f) ∧ FunD B.K "is_in" "is_in" (defArgs (top 16)) (defBody (top 16)) (defScope (top 16)) [] [] f fd
  f_is_ascending : ∃ f fd, B.mg "is_ascending" = some (.ref f) ∧ FunD B.K "is_ascending" "is_ascending" (defArgs (top 17)) (defBody (top 17)) (defScope (top 17)) [] [] f fd
  f_is_less : ∃ f fd, B.mg "is_less" = some (.ref f) ∧ FunD B.K "is_less" "is_less" (defArgs (top 18)) (defBody (top 18)) (defScope (top 18)) [] [] f fd
  f_product_of : ∃ f fd, B.mg "product_of" = some (.ref f) ∧ FunD B.K "product_of" "product_of" (defArgs (top 23)) (defBody (top 23)) (defScope (top 23)) [] [] f fd
  f_is_limit : ∃ f fd, B.mg "is_limit" = some (.ref f) ∧ FunD B.K "is_limit" "is_limit" (defArgs (top 24)) (defBody (top 24)) (defScope (top 24)) [] [] f fd
  f_is_pair_of_house : ∃ f fd, B.mg "is_pair_of_house" = some (.ref f) ∧ FunD B.K "is_pair_of_house" "is_pair_of_house" (defArgs (top 25)) (defBody (top 25)) (defScope (top 25)) [] [] f fd
  f_names_of : ∃ f fd, B.mg "names_of" = some (.ref f) ∧ FunD B.K "names_of" "names_of" (defArgs (top 27)) (defBody (top 27)) (defScope (top 27)) [] [] f fd
  f_limits_in : ∃ f fd, B.mg "limits_in" = some (.ref f) ∧ FunD B.K "limits_in" "limits_in" (defArgs (top 28)) (defBody (top 28)) (defScope (top 28)) [] [] f fd
  f_is_house_form : ∃ f fd, B.mg "is_house_form" = some (.ref f) ∧ FunD B.K "is_house_form" "is_house_form" (defArgs (top 26)) (defBody (top 26)) (defScope (top 26)) [] [] f fd
  f_all_below : ∃ f fd, B.mg "all_below" = some (.ref f) ∧ FunD B.K "all_below" "all_below" (defArgs (top 29)) (defBody (top 29)) (defScope (top 29)) [] [] f fd
  f_all_ages : ∃ f fd, B.mg "all_ages" = some (.ref f) ∧ FunD B.K "all_ages" "all_ages" (defArgs (top 30)) (defBody (top 30)) (defScope (top 30)) [] [] f fd
  f_keep_limits : ∃ f fd, B.mg "keep_limits" = some (.ref f) ∧ FunD B.K "keep_limits" "keep_limits" (defArgs (top 31)) (defBody (top 31)) (defScope (top 31)) [] [] f fd
  f_aged : ∃ f fd, B.mg "aged" = some (.ref f) ∧ FunD B.K "aged" "aged" (defArgs (top 32)) (defBody (top 32)) (defScope (top 32)) [] [] f fd
  f_ages_after : ∃ f fd, B.mg "ages_after" = some (.ref f) ∧ FunD B.K "ages_after" "ages_after" (defArgs (top 33)) (defBody (top 33)) (defScope (top 33)) [] [] f fd
  f_check_house : ∃ f fd, B.mg "check_house" = some (.ref f) ∧ FunD B.K "check_house" "check_house" (defArgs (top 35)) (defBody (top 35)) (defScope (top 35)) [] [] f fd
  f_wrong_ages : ∃ f fd, B.mg "wrong_ages" = some (.ref f) ∧ FunD B.K "wrong_ages" "wrong_ages" (defArgs (top 36)) (defBody (top 36)) (defScope (top 36)) [] [] f fd
  f_check_ages : ∃ f fd, B.mg "check_ages" = some (.ref f) ∧ FunD B.K "check_ages" "check_ages" (defArgs (top 37)) (defBody (top 37)) (defScope (top 37)) [] [] f fd
  f_check_way : ∃ f fd, B.mg "check_way" = some (.ref f) ∧ FunD B.K "check_way" "check_way" (defArgs (top 40)) (defBody (top 40)) (defScope (top 40)) [] [] f fd
  f_check_ruled : ∃ f fd, B.mg "check_ruled" = some (.ref f) ∧ FunD B.K "check_ruled" "check_ruled" (defArgs (top 41)) (defBody (top 41)) (defScope (top 41)) [] [] f fd
  f_urge_of : ∃ f fd, B.mg "urge_of" = some (.ref f) ∧ FunD B.K "urge_of" "urge_of" (defArgs (top 42)) (defBody (top 42)) (defScope (top 42)) [] [] f fd
  f_look_by : ∃ f fd, B.mg "look_by" = some (.ref f) ∧ FunD B.K "look_by" "look_by" (defArgs (top 43)) (defBody (top 43)) (defScope (top 43)) [] [] f fd
  f_led_by : ∃ f fd, B.mg "led_by" = some (.ref f) ∧ FunD B.K "led_by" "led_by" (defArgs (top 44)) (defBody (top 44)) (defScope (top 44)) [] [] f fd
  f_rule_look : ∃ f fd, B.mg "rule_look" = some (.ref f) ∧ FunD B.K "rule_look" "rule_look" (defArgs (top 45)) (defBody (top 45)) (defScope (top 45)) [] [] f fd
  f_breaks_by : ∃ f fd, B.mg "breaks_by" = some (.ref f) ∧ FunD B.K "breaks_by" "breaks_by" (defArgs (top 46)) (defBody (top 46)) (defScope (top 46)) [] [] f fd
  f_rule_ring : ∃ f fd, B.mg "rule_ring" = some (.ref f) ∧ FunD B.K "rule_ring" "rule_ring" (defArgs (top 47)) (defBody (top 47)) (defScope (top 47)) [] [] f fd
  f_kept_by_rule : ∃ f fd, B.mg "kept_by_rule" = some (.ref f) ∧ FunD B.K "kept_by_rule" "kept_by_rule" (defArgs (top 48)) (defBody (top 48)) (defScope (top 48)) [] [] f fd
  f__law_well : ∃ f fd, B.mg "_law_well" = some (.ref f) ∧ FunD B.K "_law_well" "_law_well" (defArgs (top 50)) (defBody (top 50)) (defScope (top 50)) [] [] f fd
  f__law_draw : ∃ f fd, B.mg "_law_draw" = some (.ref f) ∧ FunD B.K "_law_draw" "_law_draw" (defArgs (top 51)) (defBody (top 51)) (defScope (top 51)) [] [] f fd
  f__law_of : ∃ f fd, B.mg "_law_of" = some (.ref f) ∧ FunD B.K "_law_of" "_law_of" (defArgs (top 52)) (defBody (top 52)) (defScope (top 52)) [] [] f fd
  f__law_same : ∃ f fd, B.mg "_law_same" = some (.ref f) ∧ FunD B.K "_law_same" "_law_same" (defArgs (top 53)) (defBody (top 53)) (defScope (top 53)) [] [] f fd
  f__law_names : ∃ f fd, B.mg "_law_names" = some (.ref f) ∧ FunD B.K "_law_names" "_law_names" (defArgs (top 54)) (defBody (top 54)) (defScope (top 54)) [] [] f fd
  f__law_house : ∃ f fd, B.mg "_law_house" = some (.ref f) ∧ FunD B.K "_law_house" "_law_house" (defArgs (top 55)) (defBody (top 55)) (defScope (top 55)) [] [] f fd
  f__law_places : ∃ f fd, B.mg "_law_places" = some (.ref f) ∧ FunD B.K "_law_places" "_law_places" (defArgs (top 56)) (defBody (top 56)) (defScope (top 56)) [] [] f fd
  f__law_looks : ∃ f fd, B.mg "_law_looks" = some (.ref f) ∧ FunD B.K "_law_looks" "_law_looks" (defArgs (top 57)) (defBody (top 57)) (defScope (top 57)) [] [] f fd
  f__law_all_ages : ∃ f fd, B.mg "_law_all_ages" = some (.ref f) ∧ FunD B.K "_law_all_ages" "_law_all_ages" (defArgs (top 58)) (defBody (top 58)) (defScope (top 58)) [] [] f fd
  f__law_behind : ∃ f fd, B.mg "_law_behind" = some (.ref f) ∧ FunD B.K "_law_behind" "_law_behind" (defArgs (top 59)) (defBody (top 59)) (defScope (top 59)) [] [] f fd
  f__law_ways : ∃ f fd, B.mg "_law_ways" = some (.ref f) ∧ FunD B.K "_law_ways" "_law_ways" (defArgs (top 60)) (defBody (top 60)) (defScope (top 60)) [] [] f fd
  f__law_safe : ∃ f fd, B.mg "_law_safe" = some (.ref f) ∧ FunD B.K "_law_safe" "_law_safe" (defArgs (top 61)) (defBody (top 61)) (defScope (top 61)) [] [] f fd
  f__law_nothing : ∃ f fd, B.mg "_law_nothing" = some (.ref f) ∧ FunD B.K "_law_nothing" "_law_nothing" (defArgs (top 62)) (defBody (top 62)) (defScope (top 62)) [] [] f fd
  f__law_gaps : ∃ f fd, B.mg "_law_gaps" = some (.ref f) ∧ FunD B.K "_law_gaps" "_law_gaps" (defArgs (top 63)) (defBody (top 63)) (defScope (top 63)) [] [] f fd
  f__law_keeps_round : ∃ f fd, B.mg "_law_keeps_round" = some (.ref f) ∧ FunD B.K "_law_keeps_round" "_law_keeps_round" (defArgs (top 64)) (defBody (top 64)) (defScope (top 64)) [] [] f fd
  f__law_ages : ∃ f fd, B.mg "_law_ages" = some (.ref f) ∧ FunD B.K "_law_ages" "_law_ages" (defArgs (top 65)) (defBody (top 65)) (defScope (top 65)) [] [] f fd
  f__law_rule_look : ∃ f fd, B.mg "_law_rule_look" = some (.ref f) ∧ FunD B.K "_law_rule_look" "_law_rule_look" (defArgs (top 66)) (defBody (top 66)) (defScope (top 66)) [] [] f fd
  f__law_led : ∃ f fd, B.mg "_law_led" = some (.ref f) ∧ FunD B.K "_law_led" "_law_led" (defArgs (top 67)) (defBody (top 67)) (defScope (top 67)) [] [] f fd
  f__law_right : ∃ f fd, B.mg "_law_right" = some (.ref f) ∧ FunD B.K "_law_right" "_law_right" (defArgs (top 68)) (defBody (top 68)) (defScope (top 68)) [] [] f fd
  f_law : ∃ f fd, B.mg "law" = some (.ref f) ∧ FunD B.K "law" "law" (defArgs (top 69)) (defBody (top 69)) (defScope (top 69)) [] [] f fd
  n_abs : B.mg "abs" = none
  n_all : B.mg "all" = none
  n_bool : B.mg "bool" = none
  n_divmod : B.mg "divmod" = none
  n_enumerate : B.mg "enumerate" = none
  n_int : B.mg "int" = none
  n_isinstance : B.mg "isinstance" = none
  n_len : B.mg "len" = none
  n_list : B.mg "list" = none
  n_max : B.mg "max" = none
  n_range : B.mg "range" = none
  n_sorted : B.mg "sorted" = none
  n_str : B.mg "str" = none
  n_tuple : B.mg "tuple" = none
  n_zip : B.mg "zip" = none
  c_LONGEST_NAME : GloV B "LONGEST_NAME" c_LONGEST_NAME
  c_MOST_AGES : GloV B "MOST_AGES" c_MOST_AGES
  c_MOST_LIMIT : GloV B "MOST_LIMIT" c_MOST_LIMIT
  c_MOST_PLACES : GloV B "MOST_PLACES" c_MOST_PLACES
  c_SMALL_LETTERS : GloV B "SMALL_LETTERS" c_SMALL_LETTERS
  c_WAYS : GloV B "WAYS" c_WAYS
  c_WORDS : GloV B "WORDS" c_WORDS
theorem sc_is_whole : FnScope ["value"] ["value"] (defScope (top 9)) := fsc_by (by decide +kernel)
theorem ss_is_whole {B : Bd} (g : G B) {f : Addr} {cdv : Value} {A : Around} {outer : List Env} {s : Shared} {H : Hp} {E : XK} (hr : Room 0 (A.deeper (envOfC "is_whole" (defScope (top 9)) s.heap.objs.size f cdv))) :
    SB (cxOf (L2.CX B.P B.w) B.P B.w B.K B.mg B.base ["value"] "is_whole" (defScope (top 9)) f cdv A outer s H E) B.T (fun cls dd _ H => E cls dd H) (defBody (top 9)) m_is_whole := by
  have tk : Takes (cxOf (L2.CX B.P B.w) B.P B.w B.K B.mg B.base ["value"] "is_whole" (defScope (top 9)) f cdv A outer s H E) (fun cls dd _ H => E cls dd H) := takes_of rfl rfl rfl rfl
  have hp : PassesOwn (model B.P B.w) (A.deeper (envOfC "is_whole" (defScope (top 9)) s.heap.objs.size f cdv)) (envOfC "is_whole" (defScope (top 9)) s.heap.objs.size f cdv) (cxOf (L2.CX B.P B.w) B.P B.w B.K B.mg B.base ["value"] "is_whole" (defScope (top 9)) f cdv A outer s H E).xe := passes_of rfl
  have hN : (["value"] : List Str).Nodup := sc_is_whole.nd
  exact (sb_cons (ss_ret (ee_and (ee_isi (t := .int) rfl rfl rfl g.n_isinstance rfl g.n_int (eb_var rfl (by first | exact .inl rfl | exact .inr (.inl rfl) | exact .inr (.inr rfl)) d1_value d2_value) rfl) (ee_one (ee_not (EE.toB (ee_isi (t := .bool) rfl rfl rfl g.n_isinstance rfl g.n_bool (eb_var rfl (by first | exact .inl rfl | exact .inr (.inl rfl) | exact .inr (.inr rfl)) d1_value d2_value) rfl))))))
  sb_nil)
theorem ok_is_whole_1 {B : Bd} (g : G B) : Fn B "is_whole" 1 1 sem_is_whole [] := by
  obtain ⟨f, fd, h1, F⟩ := g.f_is_whole
  have bT := F.bindsN (ps := ["value"]) fun _ _ _ _ _ _ us hl => match us, hl with | [_], _ => rfl
  exact ⟨⟨f, fd, ["value"], [], [], h1, F.kp, fn_ok F sc_is_whole fun cdv A outer s H E hr => ss_is_whole g hr, bT, .nil, fun _ _ => .nil⟩⟩
theorem sc_is_number : FnScope ["value", "low", "high"] ["value", "low", "high"] (defScope (top 10)) := fsc_by (by decide +kernel)
theorem ss_is_number {B : Bd} (g : G B) {f : Addr} {cdv : Value} {A : Around} {outer : List Env} {s : Shared} {H : Hp} {E : XK} (hr : Room 1 (A.deeper (envOfC "is_number" (defScope (top 10)) s.heap.objs.size f cdv))) :
    SB (cxOf (L2.CX B.P B.w) B.P B.w B.K B.mg B.base ["value", "low", "high"] "is_number" (defScope (top 10)) f cdv A outer s H E) B.T (fun cls dd _ H => E cls dd H) (defBody (top 10)) m_is_number := by
  have tk : Takes (cxOf (L2.CX B.P B.w) B.P B.w B.K B.mg B.base ["value", "low", "high"] "is_number" (defScope (top 10)) f cdv A outer s H E) (fun cls dd _ H => E cls dd H) := takes_of rfl rfl rfl rfl
  have hp : PassesOwn (model B.P B.w) (A.deeper (envOfC "is_number" (defScope (top 10)) s.heap.objs.size f cdv)) (envOfC "is_number" (defScope (top 10)) s.heap.objs.size f cdv) (cxOf (L2.CX B.P B.w) B.P B.w B.K B.mg B.base ["value", "low", "high"] "is_number" (defScope (top 10)) f cdv A outer s H E).xe := passes_of rfl
  have hN : (["value", "low", "high"] : List Str).Nodup := sc_is_number.nd
  exact (sb_cons (ss_ret (ee_and (ee_fn (ok_is_whole_1 g) (hr.mono (by decide)) tk rfl rfl (ln_cons ln_nil) (ex_of (ea_cons (ee_var rfl (by first | exact .inl rfl | exact .inr (.inl rfl) | exact .inr (.inr rfl)) d1_value d2_value) ea_nil rfl)) d1_is_whole rfl rfl) (ee_and (ee_cmp op_leDD (eb_var rfl (by first | exact .inl rfl | exact .inr (.inl rfl) | exact .inr (.inr rfl)) d1_low d2_low) (eb_var rfl (by first | exact .inl rfl | exact .inr (.inl rfl) | exact .inr (.inr rfl)) d1_value d2_value) rfl) (ee_one (ee_or (ee_isN (eb_var rfl (by first | exact .inl rfl | exact .inr (.inl rfl) | exact .inr (.inr rfl)) d1_high d2_high)) (ee_one (ee_cmp op_leDD (eb_var rfl (by first | exact .inl rfl | exact .inr (.inl rfl) | exact .inr (.inr rfl)) d1_value d2_value) (eb_var rfl (by first | exact .inl rfl | exact .inr (.inl rfl) | exact .inr (.inr rfl)) d1_high d2_high) rfl)))))))
  sb_nil)
theorem ok_is_number_3 {B : Bd} (g : G B) : Fn B "is_number" 2 3 sem_is_number [] := by
  obtain ⟨f, fd, h1, F⟩ := g.f_is_number
  obtain ⟨ds, hv, bT⟩ := F.binds1 (ps := ["value", "low", "high"]) 3 1 (by simp) rfl fun _ _ _ _ _ _ _ us its h1 h2 => match us, its, h1, h2 with | [_, _, _], [_], _, _ => ⟨_, rfl, rfl⟩
  exact ⟨⟨f, fd, ["value", "low", "high"], [], ds, h1, F.kp, fn_ok F sc_is_number fun cdv A outer s H E hr => ss_is_number g hr, bT, hv, fun _ _ => .nil⟩⟩
theorem sc_is_string : FnScope ["value"] ["value"] (defScope (top 11)) := fsc_by (by decide +kernel)
theorem ss_is_string {B : Bd} (g : G B) {f : Addr} {cdv : Value} {A : Around} {outer : List Env} {s : Shared} {H : Hp} {E : XK} (hr : Room 0 (A.deeper (envOfC "is_string" (defScope (top 11)) s.heap.objs.size f cdv))) :
    SB (cxOf (L2.CX B.P B.w) B.P B.w B.K B.mg B.base ["value"] "is_string" (defScope (top 11)) f cdv A outer s H E) B.T (fun cls dd _ H => E cls dd H) (defBody (top 11)) m_is_string := by
  have tk : Takes (cxOf (L2.CX B.P B.w) B.P B.w B.K B.mg B.base ["value"] "is_string" (defScope (top 11)) f cdv A outer s H E) (fun cls dd _ H => E cls dd H) := takes_of rfl rfl rfl rfl
  have hp : PassesOwn (model B.P B.w) (A.deeper (envOfC "is_string" (defScope (top 11)) s.heap.objs.size f cdv)) (envOfC "is_string" (defScope (top 11)) s.heap.objs.size f cdv) (cxOf (L2.CX B.P B.w) B.P B.w B.K B.mg B.base ["value"] "is_string" (defScope (top 11)) f cdv A outer s H E).xe := passes_of rfl
  have hN : (["value"] : List Str).Nodup := sc_is_string.nd
  exact (sb_cons (ss_ret (ee_isi (t := .str) rfl rfl rfl g.n_isinstance rfl g.n_str (eb_var rfl (by first | exact .inl rfl | exact .inr (.inl rfl) | exact .inr (.inr rfl)) d1_value d2_value) rfl))
  sb_nil)
theorem ok_is_string_1 {B : Bd} (g : G B) : Fn B "is_string" 1 1 sem_is_string [] := by
  obtain ⟨f, fd, h1, F⟩ := g.f_is_string
  have bT := F.bindsN (ps := ["value"]) fun _ _ _ _ _ _ us hl => match us, hl with | [_], _ => rfl
  exact ⟨⟨f, fd, ["value"], [], [], h1, F.kp, fn_ok F sc_is_string fun cdv A outer s H E hr => ss_is_string g hr, bT, .nil, fun _ _ => .nil⟩⟩
theorem sc_is_made_of : FnScope ["text", "signs", "sign"] ["text", "signs"] (defScope (top 12)) := fsc_by (by decide +kernel)
theorem ss_is_made_of {B : Bd} (g : G B) {f : Addr} {cdv : Value} {A : Around} {outer : List Env} {s : Shared} {H : Hp} {E : XK} (hr : Room 0 (A.deeper (envOfC "is_made_of" (defScope (top 12)) s.heap.objs.size f cdv))) :
    SB (cxOf (L2.CX B.P B.w) B.P B.w B.K B.mg B.base ["text", "signs", "sign"] "is_made_of" (defScope (top 12)) f cdv A outer s H E) B.T (fun cls dd _ H => E cls dd H) (defBody (top 12)) m_is_made_of := by
  have tk : Takes (cxOf (L2.CX B.P B.w) B.P B.w B.K B.mg B.base ["text", "signs", "sign"] "is_made_of" (defScope (top 12)) f cdv A outer s H E) (fun cls dd _ H => E cls dd H) := takes_of rfl rfl rfl rfl
  have hp : PassesOwn (model B.P B.w) (A.deeper (envOfC "is_made_of" (defScope (top 12)) s.heap.objs.size f cdv)) (envOfC "is_made_of" (defScope (top 12)) s.heap.objs.size f cdv) (cxOf (L2.CX B.P B.w) B.P B.w B.K B.mg B.base ["text", "signs", "sign"] "is_made_of" (defScope (top 12)) f cdv A outer s H E).xe := passes_of rfl
  have hN : (["text", "signs", "sign"] : List Str).Nodup := sc_is_made_of.nd
  exact (sb_cons (ss_ret (ee_and (ee_cmp (op_neDD hr.units) (eb_var rfl (by first | exact .inl rfl | exact .inr (.inl rfl) | exact .inr (.inr rfl)) d1_text d2_text) (EE.toB (ee_str (okS_lit (by decide +kernel)))) rfl) (ee_one (ee_callB (cd_all rfl) (by rfl) g.n_all (by decide +kernel) (eab_cons (EE.toB (en_ee (ee_comp rfl hN (ie_val (ee_var rfl (by first | exact .inl rfl | exact .inr (.inl rfl) | exact .inr (.inr rfl)) d1_text d2_text)) (blk_by (own := [("sign", 2)]) (by kernel_rfl)) (fun s0 H0 C0 cl0 fp0 => (pg_name hN rfl (by first | exact .inl rfl | exact .inr rfl) (by first | exact .inl rfl | exact .inr rfl))) (fun s0 H0 C0 cl0 fp0 => pts0) (fun s0 H0 C0 cl0 fp0 => (ee_mem (op_mem hr.u65 false) (ee_var rfl (by first | exact .inl rfl | exact .inr (.inl rfl) | exact .inr (.inr rfl)) d1_sign d2_sign) (eb_var rfl (by first | exact .inl rfl | exact .inr (.inl rfl) | exact .inr (.inr rfl)) d1_signs d2_signs) rfl)) (fun _ => rfl) (by decide)))) eab_nil rfl) (by decide +kernel) d1_all rfl rfl))))
  sb_nil)
theorem ok_is_made_of_2 {B : Bd} (g : G B) : Fn B "is_made_of" 1 2 sem_is_made_of [] := by
  obtain ⟨f, fd, h1, F⟩ := g.f_is_made_of
  have bT := F.bindsN (ps := ["text", "signs"]) fun _ _ _ _ _ _ us hl => match us, hl with | [_, _], _ => rfl
  exact ⟨⟨f, fd, ["text", "signs"], [], [], h1, F.kp, fn_ok F sc_is_made_of fun cdv A outer s H E hr => ss_is_made_of g hr, bT, .nil, fun _ _ => .nil⟩⟩
theorem sc_is_word : FnScope ["value"] ["value"] (defScope (top 13)) := fsc_by (by decide +kernel)
theorem ss_is_word {B : Bd} (g : G B) {f : Addr} {cdv : Value} {A : Around} {outer : List Env} {s : Shared} {H : Hp} {E : XK} (hr : Room 1 (A.deeper (envOfC "is_word" (defScope (top 13)) s.heap.objs.size f cdv))) :
    SB (cxOf (L2.CX B.P B.w) B.P B.w B.K B.mg B.base ["value"] "is_word" (defScope (top 13)) f cdv A outer s H E) B.T (fun cls dd _ H => E cls dd H) (defBody (top 13)) m_is_word := by
  have tk : Takes (cxOf (L2.CX B.P B.w) B.P B.w B.K B.mg B.base ["value"] "is_word" (defScope (top 13)) f cdv A outer s H E) (fun cls dd _ H => E cls dd H) := takes_of rfl rfl rfl rfl
  have hp : PassesOwn (model B.P B.w) (A.deeper (envOfC "is_word" (defScope (top 13)) s.heap.objs.size f cdv)) (envOfC "is_word" (defScope (top 13)) s.heap.objs.size f cdv) (cxOf (L2.CX B.P B.w) B.P B.w B.K B.mg B.base ["value"] "is_word" (defScope (top 13)) f cdv A outer s H E).xe := passes_of rfl
  have hN : (["value"] : List Str).Nodup := sc_is_word.nd
  exact (sb_cons (ss_ret (ee_and (ee_fn (ok_is_string_1 g) (hr.mono (by decide)) tk rfl rfl (ln_cons ln_nil) (ex_of (ea_cons (ee_var rfl (by first | exact .inl rfl | exact .inr (.inl rfl) | exact .inr (.inr rfl)) d1_value d2_value) ea_nil rfl)) d1_is_string rfl rfl) (ee_one (ee_fn (ok_is_made_of_2 g) (hr.mono (by decide)) tk rfl rfl (ln_cons (ln_cons ln_nil)) (ex_of (ea_cons (ee_var rfl (by first | exact .inl rfl | exact .inr (.inl rfl) | exact .inr (.inr rfl)) d1_value d2_value) (ea_cons (ee_glob g.c_SMALL_LETTERS rfl d1_SMALL_LETTERS) ea_nil rfl) rfl)) d1_is_made_of rfl rfl))))
  sb_nil)
theorem ok_is_word_1 {B : Bd} (g : G B) : Fn B "is_word" 2 1 sem_is_word [] := by
  obtain ⟨f, fd, h1, F⟩ := g.f_is_word
  have bT := F.bindsN (ps := ["value"]) fun _ _ _ _ _ _ us hl => match us, hl with | [_], _ => rfl
  exact ⟨⟨f, fd, ["value"], [], [], h1, F.kp, fn_ok F sc_is_word fun cdv A outer s H E hr => ss_is_word g hr, bT, .nil, fun _ _ => .nil⟩⟩
theorem sc_is_name : FnScope ["value"] ["value"] (defScope (top 14)) := fsc_by (by decide +kernel)
theorem ss_is_name {B : Bd} (g : G B) {f : Addr} {cdv : Value} {A : Around} {outer : List Env} {s : Shared} {H : Hp} {E : XK} (hr : Room 2 (A.deeper (envOfC "is_name" (defScope (top 14)) s.heap.objs.size f cdv))) :
    SB (cxOf (L2.CX B.P B.w) B.P B.w B.K B.mg B.base ["value"] "is_name" (defScope (top 14)) f cdv A outer s H E) B.T (fun cls dd _ H => E cls dd H) (defBody (top 14)) m_is_name := by
  have tk : Takes (cxOf (L2.CX B.P B.w) B.P B.w B.K B.mg B.base ["value"] "is_name" (defScope (top 14)) f cdv A outer s H E) (fun cls dd _ H => E cls dd H) := takes_of rfl rfl rfl rfl
  have hp : PassesOwn (model B.P B.w) (A.deeper (envOfC "is_name" (defScope (top 14)) s.heap.objs.size f cdv)) (envOfC "is_name" (defScope (top 14)) s.heap.objs.size f cdv) (cxOf (L2.CX B.P B.w) B.P B.w B.K B.mg B.base ["value"] "is_name" (defScope (top 14)) f cdv A outer s H E).xe := passes_of rfl
  have hN : (["value"] : List Str).Nodup := sc_is_name.nd
  exact (sb_cons (ss_ret (ee_and (ee_fn (ok_is_word_1 g) (hr.mono (by decide)) tk rfl rfl (ln_cons ln_nil) (ex_of (ea_cons (ee_var rfl (by first | exact .inl rfl | exact .inr (.inl rfl) | exact .inr (.inr rfl)) d1_value d2_value) ea_nil rfl)) d1_is_word rfl rfl) (ee_and (ee_cmp op_leDD (EE.toB (ee_callB cd_len (by rfl) g.n_len (by decide +kernel) (eab_cons (eb_var rfl (by first | exact .inl rfl | exact .inr (.inl rfl) | exact .inr (.inr rfl)) d1_value d2_value) eab_nil rfl) (by decide +kernel) d1_len rfl rfl)) (EE.toB (ee_glob g.c_LONGEST_NAME rfl d1_LONGEST_NAME)) rfl) (ee_one (ee_mem (op_mem hr.u65 true) (ee_var rfl (by first | exact .inl rfl | exact .inr (.inl rfl) | exact .inr (.inr rfl)) d1_value d2_value) (EE.toB (ee_glob g.c_WORDS rfl d1_WORDS)) rfl)))))
  sb_nil)
theorem ok_is_name_1 {B : Bd} (g : G B) : Fn B "is_name" 3 1 sem_is_name [] := by
  obtain ⟨f, fd, h1, F⟩ := g.f_is_name
  have bT := F.bindsN (ps := ["value"]) fun _ _ _ _ _ _ us hl => match us, hl with | [_], _ => rfl
  exact ⟨⟨f, fd, ["value"], [], [], h1, F.kp, fn_ok F sc_is_name fun cdv A outer s H E hr => ss_is_name g hr, bT, .nil, fun _ _ => .nil⟩⟩
theorem sc_is_tuple_of : FnScope ["value", "many"] ["value", "many"] (defScope (top 15)) := fsc_by (by decide +kernel)
theorem ss_is_tuple_of {B : Bd} (g : G B) {f : Addr} {cdv : Value} {A : Around} {outer : List Env} {s : Shared} {H : Hp} {E : XK} (hr : Room 0 (A.deeper (envOfC "is_tuple_of" (defScope (top 15)) s.heap.objs.size f cdv))) :
    SB (cxOf (L2.CX B.P B.w) B.P B.w B.K B.mg B.base ["value", "many"] "is_tuple_of" (defScope (top 15)) f cdv A outer s H E) B.T (fun cls dd _ H => E cls dd H) (defBody (top 15)) m_is_tuple_of := by
  have tk : Takes (cxOf (L2.CX B.P B.w) B.P B.w B.K B.mg B.base ["value", "many"] "is_tuple_of" (defScope (top 15)) f cdv A outer s H E) (fun cls dd _ H => E cls dd H) := takes_of rfl rfl rfl rfl
  have hp : PassesOwn (model B.P B.w) (A.deeper (envOfC "is_tuple_of" (defScope (top 15)) s.heap.objs.size f cdv)) (envOfC "is_tuple_of" (defScope (top 15)) s.heap.objs.size f cdv) (cxOf (L2.CX B.P B.w) B.P B.w B.K B.mg B.base ["value", "many"] "is_tuple_of" (defScope (top 15)) f cdv A outer s H E).xe := passes_of rfl
  have hN : (["value", "many"] : List Str).Nodup := sc_is_tuple_of.nd
  exact (sb_cons (ss_ret (ee_and (ee_isi (t := .tuple) rfl rfl rfl g.n_isinstance rfl g.n_tuple (eb_var rfl (by first | exact .inl rfl | exact .inr (.inl rfl) | exact .inr (.inr rfl)) d1_value d2_value) rfl) (ee_one (ee_cmp (op_eqDD hr.units) (EE.toB (ee_callB cd_len (by rfl) g.n_len (by decide +kernel) (eab_cons (eb_var rfl (by first | exact .inl rfl | exact .inr (.inl rfl) | exact .inr (.inr rfl)) d1_value d2_value) eab_nil rfl) (by decide +kernel) d1_len rfl rfl)) (eb_var rfl (by first | exact .inl rfl | exact .inr (.inl rfl) | exact .inr (.inr rfl)) d1_many d2_many) rfl))))
  sb_nil)
theorem ok_is_tuple_of_2 {B : Bd} (g : G B) : Fn B "is_tuple_of" 1 2 sem_is_tuple_of [] := by
  obtain ⟨f, fd, h1, F⟩ := g.f_is_tuple_of
  have bT := F.bindsN (ps := ["value", "many"]) fun _ _ _ _ _ _ us hl => match us, hl with | [_, _], _ => rfl
  exact ⟨⟨f, fd, ["value", "many"], [], [], h1, F.kp, fn_ok F sc_is_tuple_of fun cdv A outer s H E hr => ss_is_tuple_of g hr, bT, .nil, fun _ _ => .nil⟩⟩
theorem sc_is_in : FnScope ["value", "names"] ["value", "names"] (defScope (top 16)) := fsc_by (by decide +kernel)
theorem ss_is_in {B : Bd} (g : G B) {f : Addr} {cdv : Value} {A : Around} {outer : List Env} {s : Shared} {H : Hp} {E : XK} (hr : Room 1 (A.deeper (envOfC "is_in" (defScope (top 16)) s.heap.objs.size f cdv))) :
    SB (cxOf (L2.CX B.P B.w) B.P B.w B.K B.mg B.base ["value", "names"] "is_in" (defScope (top 16)) f cdv A outer s H E) B.T (fun cls dd _ H => E cls dd H) (defBody (top 16)) m_is_in := by
  have tk : Takes (cxOf (L2.CX B.P B.w) B.P B.w B.K B.mg B.base ["value", "names"] "is_in" (defScope (top 16)) f cdv A outer s H E) (fun cls dd _ H => E cls dd H) := takes_of rfl rfl rfl rfl
  have hp : PassesOwn (model B.P B.w) (A.deeper (envOfC "is_in" (defScope (top 16)) s.heap.objs.size f cdv)) (envOfC "is_in" (defScope (top 16)) s.heap.objs.size f cdv) (cxOf (L2.CX B.P B.w) B.P B.w B.K B.mg B.base ["value", "names"] "is_in" (defScope (top 16)) f cdv A outer s H E).xe := passes_of rfl
  have hN : (["value", "names"] : List Str).Nodup := sc_is_in.nd
  exact (sb_cons (ss_ret (ee_and (ee_fn (ok_is_string_1 g) (hr.mono (by decide)) tk rfl rfl (ln_cons ln_nil) (ex_of (ea_cons (ee_var rfl (by first | exact .inl rfl | exact .inr (.inl rfl) | exact .inr (.inr rfl)) d1_value d2_value) ea_nil rfl)) d1_is_string rfl rfl) (ee_one (ee_mem (op_mem hr.u65 false) (ee_var rfl (by first | exact .inl rfl | exact .inr (.inl rfl) | exact .inr (.inr rfl)) d1_value d2_value) (eb_var rfl (by first | exact .inl rfl | exact .inr (.inl rfl) | exact .inr (.inr rfl)) d1_names d2_names) rfl))))
  sb_nil)
theorem ok_is_in_2 {B : Bd} (g : G B) : Fn B "is_in" 2 2 sem_is_in [] := by
  obtain ⟨f, fd, h1, F⟩ := g.f_is_in
  have bT := F.bindsN (ps := ["value", "names"]) fun _ _ _ _ _ _ us hl => match us, hl with | [_, _], _ => rfl
  exact ⟨⟨f, fd, ["value", "names"], [], [], h1, F.kp, fn_ok F sc_is_in fun cdv A outer s H E hr => ss_is_in g hr, bT, .nil, fun _ _ => .nil⟩⟩
theorem sc_is_ascending : FnScope ["value", "index"] ["value"] (defScope (top 17)) := fsc_by (by decide +kernel)
theorem ss_is_ascending {B : Bd} (g : G B) {f : Addr} {cdv : Value} {A : Around} {outer : List Env} {s : Shared} {H : Hp} {E : XK} (hr : Room 0 (A.deeper (envOfC "is_ascending" (defScope (top 17)) s.heap.objs.size f cdv))) :
    SB (cxOf (L2.CX B.P B.w) B.P B.w B.K B.mg B.base ["value", "index"] "is_ascending" (defScope (top 17)) f cdv A outer s H E) B.T (fun cls dd _ H => E cls dd H) (defBody (top 17)) m_is_ascending := by
  have tk : Takes (cxOf (L2.CX B.P B.w) B.P B.w B.K B.mg B.base ["value", "index"] "is_ascending" (defScope (top 17)) f cdv A outer s H E) (fun cls dd _ H => E cls dd H) := takes_of rfl rfl rfl rfl
  have hp : PassesOwn (model B.P B.w) (A.deeper (envOfC "is_ascending" (defScope (top 17)) s.heap.objs.size f cdv)) (envOfC "is_ascending" (defScope (top 17)) s.heap.objs.size f cdv) (cxOf (L2.CX B.P B.w) B.P B.w B.K B.mg B.base ["value", "index"] "is_ascending" (defScope (top 17)) f cdv A outer s H E).xe := passes_of rfl
  have hN : (["value", "index"] : List Str).Nodup := sc_is_ascending.nd
  exact (sb_cons (ss_ret (ee_callB (cd_all rfl) (by rfl) g.n_all (by decide +kernel) (eab_cons (EE.toB (en_ee (ee_comp rfl hN (ie_range2 (by rfl) g.n_range ee_int (ee_callB cd_len (by rfl) g.n_len (by decide +kernel) (eab_cons (eb_var rfl (by first | exact .inl rfl | exact .inr (.inl rfl) | exact .inr (.inr rfl)) d1_value d2_value) eab_nil rfl) (by decide +kernel) d1_len rfl rfl) rfl rfl) (blk_by (own := [("index", 1)]) (by kernel_rfl)) (fun s0 H0 C0 cl0 fp0 => (pg_name hN rfl (by first | exact .inl rfl | exact .inr rfl) (by first | exact .inl rfl | exact .inr rfl))) (fun s0 H0 C0 cl0 fp0 => pts0) (fun s0 H0 C0 cl0 fp0 => (ee_cmp op_ltDD (EE.toB (ee_ixS hr.u1 (eb_var rfl (by first | exact .inl rfl | exact .inr (.inl rfl) | exact .inr (.inr rfl)) d1_value d2_value) (ee_op2 op_subD (ee_var rfl (by first | exact .inl rfl | exact .inr (.inl rfl) | exact .inr (.inr rfl)) d1_index d2_index) ee_int) (fun _ _ => rfl))) (EE.toB (ee_ixS hr.u1 (eb_var rfl (by first | exact .inl rfl | exact .inr (.inl rfl) | exact .inr (.inr rfl)) d1_value d2_value) (ee_var rfl (by first | exact .inl rfl | exact .inr (.inl rfl) | exact .inr (.inr rfl)) d1_index d2_index) (fun _ _ => rfl))) rfl)) (fun _ => rfl) (by decide)))) eab_nil rfl) (by decide +kernel) d1_all rfl rfl))
  sb_nil)
theorem ok_is_ascending_1 {B : Bd} (g : G B) : Fn B "is_ascending" 1 1 sem_is_ascending [] := by
  obtain ⟨f, fd, h1, F⟩ := g.f_is_ascending
  have bT := F.bindsN (ps := ["value"]) fun _ _ _ _ _ _ us hl => match us, hl with | [_], _ => rfl
  exact ⟨⟨f, fd, ["value"], [], [], h1, F.kp, fn_ok F sc_is_ascending fun cdv A outer s H E hr => ss_is_ascending g hr, bT, .nil, fun _ _ => .nil⟩⟩
theorem sc_is_less : FnScope ["one", "two"] ["one", "two"] (defScope (top 18)) := fsc_by (by decide +kernel)
theorem ss_is_less {B : Bd} (g : G B) {f : Addr} {cdv : Value} {A : Around} {outer : List Env} {s : Shared} {H : Hp} {E : XK} (hr : Room 0 (A.deeper (envOfC "is_less" (defScope (top 18)) s.heap.objs.size f cdv))) :
    SB (cxOf (L2.CX B.P B.w) B.P B.w B.K B.mg B.base ["one", "two"] "is_less" (defScope (top 18)) f cdv A outer s H E) B.T (fun cls dd _ H => E cls dd H) (defBody (top 18)) m_is_less := by
  have tk : Takes (cxOf (L2.CX B.P B.w) B.P B.w B.K B.mg B.base ["one", "two"] "is_less" (defScope (top 18)) f cdv A outer s H E) (fun cls dd _ H => E cls dd H) := takes_of rfl rfl rfl rfl
  have hp : PassesOwn (model B.P B.w) (A.deeper (envOfC "is_less" (defScope (top 18)) s.heap.objs.size f cdv)) (envOfC "is_less" (defScope (top 18)) s.heap.objs.size f cdv) (cxOf (L2.CX B.P B.w) B.P B.w B.K B.mg B.base ["one", "two"] "is_less" (defScope (top 18)) f cdv A outer s H E).xe := passes_of rfl
  have hN : (["one", "two"] : List Str).Nodup := sc_is_less.nd
  exact (sb_cons (ss_ret (ee_cmp op_ltDD (EE.toB (ee_op2 op_mulD (ee_ixS hr.u1 (eb_var rfl (by first | exact .inl rfl | exact .inr (.inl rfl) | exact .inr (.inr rfl)) d1_one d2_one) ee_int (fun _ _ => rfl)) (ee_ixS hr.u1 (eb_var rfl (by first | exact .inl rfl | exact .inr (.inl rfl) | exact .inr (.inr rfl)) d1_two d2_two) ee_int (fun _ _ => rfl)))) (EE.toB (ee_op2 op_mulD (ee_ixS hr.u1 (eb_var rfl (by first | exact .inl rfl | exact .inr (.inl rfl) | exact .inr (.inr rfl)) d1_two d2_two) ee_int (fun _ _ => rfl)) (ee_ixS hr.u1 (eb_var rfl (by first | exact .inl rfl | exact .inr (.inl rfl) | exact .inr (.inr rfl)) d1_one d2_one) ee_int (fun _ _ => rfl)))) rfl))
  sb_nil)
theorem ok_is_less_2 {B : Bd} (g : G B) : Fn B "is_less" 1 2 sem_is_less [] := by
  obtain ⟨f, fd, h1, F⟩ := g.f_is_less
  have bT := F.bindsN (ps := ["one", "two"]) fun _ _ _ _ _ _ us hl => match us, hl with | [_, _], _ => rfl
  exact ⟨⟨f, fd, ["one", "two"], [], [], h1, F.kp, fn_ok F sc_is_less fun cdv A outer s H E hr => ss_is_less g hr, bT, .nil, fun _ _ => .nil⟩⟩
theorem sc_product_of : FnScope ["numbers", "found", "number"] ["numbers"] (defScope (top 23)) := fsc_by (by decide +kernel)
theorem ss_product_of {B : Bd} (g : G B) {f : Addr} {cdv : Value} {A : Around} {outer : List Env} {s : Shared} {H : Hp} {E : XK} (hr : Room 0 (A.deeper (envOfC "product_of" (defScope (top 23)) s.heap.objs.size f cdv))) :
    SB (cxOf (L2.CX B.P B.w) B.P B.w B.K B.mg B.base ["numbers", "found", "number"] "product_of" (defScope (top 23)) f cdv A outer s H E) B.T (fun cls dd _ H => E cls dd H) (defBody (top 23)) m_product_of := by
  have tk : Takes (cxOf (L2.CX B.P B.w) B.P B.w B.K B.mg B.base ["numbers", "found", "number"] "product_of" (defScope (top 23)) f cdv A outer s H E) (fun cls dd _ H => E cls dd H) := takes_of rfl rfl rfl rfl
  have hp : PassesOwn (model B.P B.w) (A.deeper (envOfC "product_of" (defScope (top 23)) s.heap.objs.size f cdv)) (envOfC "product_of" (defScope (top 23)) s.heap.objs.size f cdv) (cxOf (L2.CX B.P B.w) B.P B.w B.K B.mg B.base ["numbers", "found", "number"] "product_of" (defScope (top 23)) f cdv A outer s H E).xe := passes_of rfl
  have hN : (["numbers", "found", "number"] : List Str).Nodup := sc_product_of.nd
  exact (sb_cons (ss_set hN rfl (by first | exact .inl rfl | exact .inr rfl) ee_int rfl (by first | exact .inl rfl | exact .inr rfl))
  (sb_cons (ss_for hp rfl (ie_val (ee_var rfl (by first | exact .inl rfl | exact .inr (.inl rfl) | exact .inr (.inr rfl)) d1_numbers d2_numbers)) (pg_name hN rfl (by first | exact .inl rfl | exact .inr rfl) (by first | exact .inl rfl | exact .inr rfl)) (sb_cons (ss_set hN rfl (by first | exact .inl rfl | exact .inr rfl) (ee_op2 op_mulD (ee_var rfl (by first | exact .inl rfl | exact .inr (.inl rfl) | exact .inr (.inr rfl)) d1_found d2_found) (ee_var rfl (by first | exact .inl rfl | exact .inr (.inl rfl) | exact .inr (.inr rfl)) d1_number d2_number)) rfl (by first | exact .inl rfl | exact .inr rfl))
  sb_nil) (fun _ => rfl))
  (sb_cons (ss_ret (ee_var rfl (by first | exact .inl rfl | exact .inr (.inl rfl) | exact .inr (.inr rfl)) d1_found d2_found))
  sb_nil)))
theorem ok_product_of_1 {B : Bd} (g : G B) : Fn B "product_of" 1 1 sem_product_of [] := by
  obtain ⟨f, fd, h1, F⟩ := g.f_product_of
  have bT := F.bindsN (ps := ["numbers"]) fun _ _ _ _ _ _ us hl => match us, hl with | [_], _ => rfl
  exact ⟨⟨f, fd, ["numbers"], [], [], h1, F.kp, fn_ok F sc_product_of fun cdv A outer s H E hr => ss_product_of g hr, bT, .nil, fun _ _ => .nil⟩⟩
theorem sc_is_limit : FnScope ["value"] ["value"] (defScope (top 24)) := fsc_by (by decide +kernel)
theorem ss_is_limit {B : Bd} (g : G B) {f : Addr} {cdv : Value} {A : Around} {outer : List Env} {s : Shared} {H : Hp} {E : XK} (hr : Room 2 (A.deeper (envOfC "is_limit" (defScope (top 24)) s.heap.objs.size f cdv))) :
    SB (cxOf (L2.CX B.P B.w) B.P B.w B.K B.mg B.base ["value"] "is_limit" (defScope (top 24)) f cdv A outer s H E) B.T (fun cls dd _ H => E cls dd H) (defBody (top 24)) m_is_limit := by
  have tk : Takes (cxOf (L2.CX B.P B.w) B.P B.w B.K B.mg B.base ["value"] "is_limit" (defScope (top 24)) f cdv A outer s H E) (fun cls dd _ H => E cls dd H) := takes_of rfl rfl rfl rfl
  have hp : PassesOwn (model B.P B.w) (A.deeper (envOfC "is_limit" (defScope (top 24)) s.heap.objs.size f cdv)) (envOfC "is_limit" (defScope (top 24)) s.heap.objs.size f cdv) (cxOf (L2.CX B.P B.w) B.P B.w B.K B.mg B.base ["value"] "is_limit" (defScope (top 24)) f cdv A outer s H E).xe := passes_of rfl
  have hN : (["value"] : List Str).Nodup := sc_is_limit.nd
  exact (sb_cons (ss_ret (ee_fn (ok_is_number_3 g) (hr.mono (by decide)) tk rfl rfl (ln_cons (ln_cons (ln_cons ln_nil))) (ex_of (ea_cons (ee_var rfl (by first | exact .inl rfl | exact .inr (.inl rfl) | exact .inr (.inr rfl)) d1_value d2_value) (ea_cons ee_int (ea_cons (ee_glob g.c_MOST_LIMIT rfl d1_MOST_LIMIT) ea_nil rfl) rfl) rfl)) d1_is_number rfl rfl))
  sb_nil)
theorem ok_is_limit_1 {B : Bd} (g : G B) : Fn B "is_limit" 3 1 sem_is_limit [] := by
  obtain ⟨f, fd, h1, F⟩ := g.f_is_limit
  have bT := F.bindsN (ps := ["value"]) fun _ _ _ _ _ _ us hl => match us, hl with | [_], _ => rfl
  exact ⟨⟨f, fd, ["value"], [], [], h1, F.kp, fn_ok F sc_is_limit fun cdv A outer s H E hr => ss_is_limit g hr, bT, .nil, fun _ _ => .nil⟩⟩
theorem sc_is_pair_of_house : FnScope ["value"] ["value"] (defScope (top 25)) := fsc_by (by decide +kernel)
theorem ss_is_pair_of_house {B : Bd} (g : G B) {f : Addr} {cdv : Value} {A : Around} {outer : List Env} {s : Shared} {H : Hp} {E : XK} (hr : Room 3 (A.deeper (envOfC "is_pair_of_house" (defScope (top 25)) s.heap.objs.size f cdv))) :
    SB (cxOf (L2.CX B.P B.w) B.P B.w B.K B.mg B.base ["value"] "is_pair_of_house" (defScope (top 25)) f cdv A outer s H E) B.T (fun cls dd _ H => E cls dd H) (defBody (top 25)) m_is_pair_of_house := by
  have tk : Takes (cxOf (L2.CX B.P B.w) B.P B.w B.K B.mg B.base ["value"] "is_pair_of_house" (defScope (top 25)) f cdv A outer s H E) (fun cls dd _ H => E cls dd H) := takes_of rfl rfl rfl rfl
  have hp : PassesOwn (model B.P B.w) (A.deeper (envOfC "is_pair_of_house" (defScope (top 25)) s.heap.objs.size f cdv)) (envOfC "is_pair_of_house" (defScope (top 25)) s.heap.objs.size f cdv) (cxOf (L2.CX B.P B.w) B.P B.w B.K B.mg B.base ["value"] "is_pair_of_house" (defScope (top 25)) f cdv A outer s H E).xe := passes_of rfl
  have hN : (["value"] : List Str).Nodup := sc_is_pair_of_house.nd
  exact (sb_cons (ss_ret (ee_and (ee_fn (ok_is_tuple_of_2 g) (hr.mono (by decide)) tk rfl rfl (ln_cons (ln_cons ln_nil)) (ex_of (ea_cons (ee_var rfl (by first | exact .inl rfl | exact .inr (.inl rfl) | exact .inr (.inr rfl)) d1_value d2_value) (ea_cons ee_int ea_nil rfl) rfl)) d1_is_tuple_of rfl rfl) (ee_and (ee_fn (ok_is_name_1 g) (hr.mono (by decide)) tk rfl rfl (ln_cons ln_nil) (ex_of (ea_cons (ee_ixS hr.u1 (eb_var rfl (by first | exact .inl rfl | exact .inr (.inl rfl) | exact .inr (.inr rfl)) d1_value d2_value) ee_int (fun _ _ => rfl)) ea_nil rfl)) d1_is_name rfl rfl) (ee_one (ee_fn (ok_is_limit_1 g) (hr.mono (by decide)) tk rfl rfl (ln_cons ln_nil) (ex_of (ea_cons (ee_ixS hr.u1 (eb_var rfl (by first | exact .inl rfl | exact .inr (.inl rfl) | exact .inr (.inr rfl)) d1_value d2_value) ee_int (fun _ _ => rfl)) ea_nil rfl)) d1_is_limit rfl rfl)))))
  sb_nil)
theorem ok_is_pair_of_house_1 {B : Bd} (g : G B) : Fn B "is_pair_of_house" 4 1 sem_is_pair_of_house [] := by
  obtain ⟨f, fd, h1, F⟩ := g.f_is_pair_of_house
  have bT := F.bindsN (ps := ["value"]) fun _ _ _ _ _ _ us hl => match us, hl with | [_], _ => rfl
  exact ⟨⟨f, fd, ["value"], [], [], h1, F.kp, fn_ok F sc_is_pair_of_house fun cdv A outer s H E hr => ss_is_pair_of_house g hr, bT, .nil, fun _ _ => .nil⟩⟩
theorem sc_names_of : FnScope ["house", "place", "_"] ["house"] (defScope (top 27)) := fsc_by (by decide +kernel)
theorem ss_names_of {B : Bd} (g : G B) {f : Addr} {cdv : Value} {A : Around} {outer : List Env} {s : Shared} {H : Hp} {E : XK} (hr : Room 0 (A.deeper (envOfC "names_of" (defScope (top 27)) s.heap.objs.size f cdv))) :
    SB (cxOf (L2.CX B.P B.w) B.P B.w B.K B.mg B.base ["house", "place", "_"] "names_of" (defScope (top 27)) f cdv A outer s H E) B.T (fun cls dd _ H => E cls dd H) (defBody (top 27)) m_names_of := by
  have tk : Takes (cxOf (L2.CX B.P B.w) B.P B.w B.K B.mg B.base ["house", "place", "_"] "names_of" (defScope (top 27)) f cdv A outer s H E) (fun cls dd _ H => E cls dd H) := takes_of rfl rfl rfl rfl
  have hp : PassesOwn (model B.P B.w) (A.deeper (envOfC "names_of" (defScope (top 27)) s.heap.objs.size f cdv)) (envOfC "names_of" (defScope (top 27)) s.heap.objs.size f cdv) (cxOf (L2.CX B.P B.w) B.P B.w B.K B.mg B.base ["house", "place", "_"] "names_of" (defScope (top 27)) f cdv A outer s H E).xe := passes_of rfl
  have hN : (["house", "place", "_"] : List Str).Nodup := sc_names_of.nd
  exact (sb_cons (ss_ret (en_ee (ee_comp rfl hN (ie_val (ee_var rfl (by first | exact .inl rfl | exact .inr (.inl rfl) | exact .inr (.inr rfl)) d1_house d2_house)) (blk_by (own := [("place", 1), ("_", 2)]) (by kernel_rfl)) (fun s0 H0 C0 cl0 fp0 => (pg_tup rfl (pgs_cons (pg_name hN rfl (by first | exact .inl rfl | exact .inr rfl) (by first | exact .inl rfl | exact .inr rfl)) (pgs_cons (pg_name hN rfl (by first | exact .inl rfl | exact .inr rfl) (by first | exact .inl rfl | exact .inr rfl)) pgs_nil)))) (fun s0 H0 C0 cl0 fp0 => pts0) (fun s0 H0 C0 cl0 fp0 => (ee_var rfl (by first | exact .inl rfl | exact .inr (.inl rfl) | exact .inr (.inr rfl)) d1_place d2_place)) (fun _ => rfl) (by decide))))
  sb_nil)
theorem ok_names_of_1 {B : Bd} (g : G B) : Fn B "names_of" 1 1 sem_names_of [] := by
  obtain ⟨f, fd, h1, F⟩ := g.f_names_of
  have bT := F.bindsN (ps := ["house"]) fun _ _ _ _ _ _ us hl => match us, hl with | [_], _ => rfl
  exact ⟨⟨f, fd, ["house"], [], [], h1, F.kp, fn_ok F sc_names_of fun cdv A outer s H E hr => ss_names_of g hr, bT, .nil, fun _ _ => .nil⟩⟩
theorem sc_limits_in : FnScope ["house", "_", "limit"] ["house"] (defScope (top 28)) := fsc_by (by decide +kernel)
theorem ss_limits_in {B : Bd} (g : G B) {f : Addr} {cdv : Value} {A : Around} {outer : List Env} {s : Shared} {H : Hp} {E : XK} (hr : Room 0 (A.deeper (envOfC "limits_in" (defScope (top 28)) s.heap.objs.size f cdv))) :
    SB (cxOf (L2.CX B.P B.w) B.P B.w B.K B.mg B.base ["house", "_", "limit"] "limits_in" (defScope (top 28)) f cdv A outer s H E) B.T (fun cls dd _ H => E cls dd H) (defBody (top 28)) m_limits_in := by
  have tk : Takes (cxOf (L2.CX B.P B.w) B.P B.w B.K B.mg B.base ["house", "_", "limit"] "limits_in" (defScope (top 28)) f cdv A outer s H E) (fun cls dd _ H => E cls dd H) := takes_of rfl rfl rfl rfl
  have hp : PassesOwn (model B.P B.w) (A.deeper (envOfC "limits_in" (defScope (top 28)) s.heap.objs.size f cdv)) (envOfC "limits_in" (defScope (top 28)) s.heap.objs.size f cdv) (cxOf (L2.CX B.P B.w) B.P B.w B.K B.mg B.base ["house", "_", "limit"] "limits_in" (defScope (top 28)) f cdv A outer s H E).xe := passes_of rfl
  have hN : (["house", "_", "limit"] : List Str).Nodup := sc_limits_in.nd
  exact (sb_cons (ss_ret (en_ee (ee_comp rfl hN (ie_val (ee_var rfl (by first | exact .inl rfl | exact .inr (.inl rfl) | exact .inr (.inr rfl)) d1_house d2_house)) (blk_by (own := [("_", 1), ("limit", 2)]) (by kernel_rfl)) (fun s0 H0 C0 cl0 fp0 => (pg_tup rfl (pgs_cons (pg_name hN rfl (by first | exact .inl rfl | exact .inr rfl) (by first | exact .inl rfl | exact .inr rfl)) (pgs_cons (pg_name hN rfl (by first | exact .inl rfl | exact .inr rfl) (by first | exact .inl rfl | exact .inr rfl)) pgs_nil)))) (fun s0 H0 C0 cl0 fp0 => pts0) (fun s0 H0 C0 cl0 fp0 => (ee_var rfl (by first | exact .inl rfl | exact .inr (.inl rfl) | exact .inr (.inr rfl)) d1_limit d2_limit)) (fun _ => rfl) (by decide))))
  sb_nil)
theorem ok_limits_in_1 {B : Bd} (g : G B) : Fn B "limits_in" 1 1 sem_limits_in [] := by
  obtain ⟨f, fd, h1, F⟩ := g.f_limits_in
  have bT := F.bindsN (ps := ["house"]) fun _ _ _ _ _ _ us hl => match us, hl with | [_], _ => rfl
  exact ⟨⟨f, fd, ["house"], [], [], h1, F.kp, fn_ok F sc_limits_in fun cdv A outer s H E hr => ss_limits_in g hr, bT, .nil, fun _ _ => .nil⟩⟩
theorem sc_is_house_form : FnScope ["value", "pair"] ["value"] (defScope (top 26)) := fsc_by (by decide +kernel)
theorem ss_is_house_form {B : Bd} (g : G B) {f : Addr} {cdv : Value} {A : Around} {outer : List Env} {s : Shared} {H : Hp} {E : XK} (hr : Room 4 (A.deeper (envOfC "is_house_form" (defScope (top 26)) s.heap.objs.size f cdv))) :
    SB (cxOf (L2.CX B.P B.w) B.P B.w B.K B.mg B.base ["value", "pair"] "is_house_form" (defScope (top 26)) f cdv A outer s H E) B.T (fun cls dd _ H => E cls dd H) (defBody (top 26)) m_is_house_form := by
  have tk : Takes (cxOf (L2.CX B.P B.w) B.P B.w B.K B.mg B.base ["value", "pair"] "is_house_form" (defScope (top 26)) f cdv A outer s H E) (fun cls dd _ H => E cls dd H) := takes_of rfl rfl rfl rfl
  have hp : PassesOwn (model B.P B.w) (A.deeper (envOfC "is_house_form" (defScope (top 26)) s.heap.objs.size f cdv)) (envOfC "is_house_form" (defScope (top 26)) s.heap.objs.size f cdv) (cxOf (L2.CX B.P B.w) B.P B.w B.K B.mg B.base ["value", "pair"] "is_house_form" (defScope (top 26)) f cdv A outer s H E).xe := passes_of rfl
  have hN : (["value", "pair"] : List Str).Nodup := sc_is_house_form.nd
  exact (sb_cons (ss_if (PW.pt (ew_or (et_not (et_truth (EE.toB (ee_isi (t := .tuple) rfl rfl rfl g.n_isinstance rfl g.n_tuple (eb_var rfl (by first | exact .inl rfl | exact .inr (.inl rfl) | exact .inr (.inr rfl)) d1_value d2_value) rfl)) (fun _ => rfl))) (ew_or1 (et_not (et_chain op_leDD op_leDD (EE.toB ee_int) (EE.toB (ee_callB cd_len (by rfl) g.n_len (by decide +kernel) (eab_cons (eb_var rfl (by first | exact .inl rfl | exact .inr (.inl rfl) | exact .inr (.inr rfl)) d1_value d2_value) eab_nil rfl) (by decide +kernel) d1_len rfl rfl)) (EE.toB (ee_glob g.c_MOST_PLACES rfl d1_MOST_PLACES)) rfl))))) (sb_cons (ss_ret ee_bl)
  sb_nil) sb_nil)
  (sb_cons (ss_if (PW.pt (ew_or (et_not (et_truth (EE.toB (ee_callB (cd_all rfl) (by rfl) g.n_all (by decide +kernel) (eab_cons (EE.toB (en_ee (ee_comp rfl hN (ie_val (ee_var rfl (by first | exact .inl rfl | exact .inr (.inl rfl) | exact .inr (.inr rfl)) d1_value d2_value)) (blk_by (own := [("pair", 1)]) (by kernel_rfl)) (fun s0 H0 C0 cl0 fp0 => (pg_name hN rfl (by first | exact .inl rfl | exact .inr rfl) (by first | exact .inl rfl | exact .inr rfl))) (fun s0 H0 C0 cl0 fp0 => pts0) (fun s0 H0 C0 cl0 fp0 => (ee_fn (ok_is_pair_of_house_1 g) (hr.mono (by decide)) tk_blk rfl rfl (ln_cons ln_nil) (ex_of (ea_cons (ee_var rfl (by first | exact .inl rfl | exact .inr (.inl rfl) | exact .inr (.inr rfl)) d1_pair d2_pair) ea_nil rfl)) d1_is_pair_of_house rfl rfl)) (fun _ => rfl) (by decide)))) eab_nil rfl) (by decide +kernel) d1_all rfl rfl)) (fun _ => rfl))) (ew_or1 (et_not (et_truth (EE.toB (ee_fn (ok_is_ascending_1 g) (hr.mono (by decide)) tk rfl rfl (ln_cons ln_nil) (ex_of (ea_cons (ee_fn (ok_names_of_1 g) (hr.mono (by decide)) tk rfl rfl (ln_cons ln_nil) (ex_of (ea_cons (ee_var rfl (by first | exact .inl rfl | exact .inr (.inl rfl) | exact .inr (.inr rfl)) d1_value d2_value) ea_nil rfl)) d1_names_of rfl rfl) ea_nil rfl)) d1_is_ascending rfl rfl)) (fun _ => rfl)))))) (sb_cons (ss_ret ee_bl)
  sb_nil) sb_nil)
  (sb_cons (ss_ret (ee_cmp op_leDD (EE.toB (ee_fn (ok_product_of_1 g) (hr.mono (by decide)) tk rfl rfl (ln_cons ln_nil) (ex_of (ea_cons (ee_fn (ok_limits_in_1 g) (hr.mono (by decide)) tk rfl rfl (ln_cons ln_nil) (ex_of (ea_cons (ee_var rfl (by first | exact .inl rfl | exact .inr (.inl rfl) | exact .inr (.inr rfl)) d1_value d2_value) ea_nil rfl)) d1_limits_in rfl rfl) ea_nil rfl)) d1_product_of rfl rfl)) (EE.toB (ee_glob g.c_MOST_AGES rfl d1_MOST_AGES)) rfl))
  sb_nil)))
theorem ok_is_house_form_1 {B : Bd} (g : G B) : Fn B "is_house_form" 5 1 sem_is_house_form [] := by
  obtain ⟨f, fd, h1, F⟩ := g.f_is_house_form
  have bT := F.bindsN (ps := ["value"]) fun _ _ _ _ _ _ us hl => match us, hl with | [_], _ => rfl
  exact ⟨⟨f, fd, ["value"], [], [], h1, F.kp, fn_ok F sc_is_house_form fun cdv A outer s H E hr => ss_is_house_form g hr, bT, .nil, fun _ _ => .nil⟩⟩
theorem sc_all_below : FnScope ["limits", "found", "limit", "row", "number"] ["limits"] (defScope (top 29)) := fsc_by (by decide +kernel)
theorem ss_all_below {B : Bd} (g : G B) {f : Addr} {cdv : Value} {A : Around} {outer : List Env} {s : Shared} {H : Hp} {E : XK} (hr : Room 0 (A.deeper (envOfC "all_below" (defScope (top 29)) s.heap.objs.size f cdv))) :
    SB (cxOf (L2.CX B.P B.w) B.P B.w B.K B.mg B.base ["limits", "found", "limit", "row", "number"] "all_below" (defScope (top 29)) f cdv A outer s H E) B.T (fun cls dd _ H => E cls dd H) (defBody (top 29)) m_all_below := by
  have tk : Takes (cxOf (L2.CX B.P B.w) B.P B.w B.K B.mg B.base ["limits", "found", "limit", "row", "number"] "all_below" (defScope (top 29)) f cdv A outer s H E) (fun cls dd _ H => E cls dd H) := takes_of rfl rfl rfl rfl
  have hp : PassesOwn (model B.P B.w) (A.deeper (envOfC "all_below" (defScope (top 29)) s.heap.objs.size f cdv)) (envOfC "all_below" (defScope (top 29)) s.heap.objs.size f cdv) (cxOf (L2.CX B.P B.w) B.P B.w B.K B.mg B.base ["limits", "found", "limit", "row", "number"] "all_below" (defScope (top 29)) f cdv A outer s H E).xe := passes_of rfl
  have hN : (["limits", "found", "limit", "row", "number"] : List Str).Nodup := sc_all_below.nd
  exact (sb_cons (ss_set hN rfl (by first | exact .inl rfl | exact .inr rfl) (ee_lst (ea_cons (ee_tup ea_nil) ea_nil rfl)) rfl (by first | exact .inl rfl | exact .inr rfl))
  (sb_cons (ss_for hp rfl (ie_val (ee_var rfl (by first | exact .inl rfl | exact .inr (.inl rfl) | exact .inr (.inr rfl)) d1_limits d2_limits)) (pg_name hN rfl (by first | exact .inl rfl | exact .inr rfl) (by first | exact .inl rfl | exact .inr rfl)) (sb_cons (ss_setLc2 rfl hN rfl rfl (sw_true rfl rfl rfl rfl) (ie_val (ee_var rfl (by first | exact .inl rfl | exact .inr (.inl rfl) | exact .inr (.inr rfl)) d1_found d2_found)) (blk_by (own := [("row", 3), ("number", 4)]) (by kernel_rfl)) (by decide) (fun s0 H0 C0 cl0 fp0 => (pg_name hN rfl (by first | exact .inl rfl | exact .inr rfl) (by first | exact .inl rfl | exact .inr rfl))) (fun s0 H0 C0 cl0 fp0 => pts0) (fun s0 H0 C0 cl0 fp0 => (ie_range1 (by rfl) g.n_range (ee_var rfl (by first | exact .inl rfl | exact .inr (.inl rfl) | exact .inr (.inr rfl)) d1_limit d2_limit) rfl)) (fun s0 H0 C0 cl0 fp0 => (pg_name hN rfl (by first | exact .inl rfl | exact .inr rfl) (by first | exact .inl rfl | exact .inr rfl))) (fun s0 H0 C0 cl0 fp0 => pts0) (fun s0 H0 C0 cl0 fp0 => (ee_tup (ea_star (ee_var rfl (by first | exact .inl rfl | exact .inr (.inl rfl) | exact .inr (.inr rfl)) d1_row d2_row) (ea_cons (ee_var rfl (by first | exact .inl rfl | exact .inr (.inl rfl) | exact .inr (.inr rfl)) d1_number d2_number) ea_nil rfl) rfl))) (fun _ => rfl) (fun _ _ => rfl) (by decide) (by decide))
  sb_nil) (fun _ => rfl))
  (sb_cons (ss_ret (ee_var rfl (by first | exact .inl rfl | exact .inr (.inl rfl) | exact .inr (.inr rfl)) d1_found d2_found))
  sb_nil)))
theorem ok_all_below_1 {B : Bd} (g : G B) : Fn B "all_below" 1 1 sem_all_below [] := by
  obtain ⟨f, fd, h1, F⟩ := g.f_all_below
  have bT := F.bindsN (ps := ["limits"]) fun _ _ _ _ _ _ us hl => match us, hl with | [_], _ => rfl
  exact ⟨⟨f, fd, ["limits"], [], [], h1, F.kp, fn_ok F sc_all_below fun cdv A outer s H E hr => ss_all_below g hr, bT, .nil, fun _ _ => .nil⟩⟩
theorem sc_all_ages : FnScope ["house"] ["house"] (defScope (top 30)) := fsc_by (by decide +kernel)
theorem ss_all_ages {B : Bd} (g : G B) {f : Addr} {cdv : Value} {A : Around} {outer : List Env} {s : Shared} {H : Hp} {E : XK} (hr : Room 1 (A.deeper (envOfC "all_ages" (defScope (top 30)) s.heap.objs.size f cdv))) :
    SB (cxOf (L2.CX B.P B.w) B.P B.w B.K B.mg B.base ["house"] "all_ages" (defScope (top 30)) f cdv A outer s H E) B.T (fun cls dd _ H => E cls dd H) (defBody (top 30)) m_all_ages := by
  have tk : Takes (cxOf (L2.CX B.P B.w) B.P B.w B.K B.mg B.base ["house"] "all_ages" (defScope (top 30)) f cdv A outer s H E) (fun cls dd _ H => E cls dd H) := takes_of rfl rfl rfl rfl
  have hp : PassesOwn (model B.P B.w) (A.deeper (envOfC "all_ages" (defScope (top 30)) s.heap.objs.size f cdv)) (envOfC "all_ages" (defScope (top 30)) s.heap.objs.size f cdv) (cxOf (L2.CX B.P B.w) B.P B.w B.K B.mg B.base ["house"] "all_ages" (defScope (top 30)) f cdv A outer s H E).xe := passes_of rfl
  have hN : (["house"] : List Str).Nodup := sc_all_ages.nd
  exact (sb_cons (ss_ret (ee_fn (ok_all_below_1 g) (hr.mono (by decide)) tk rfl rfl (ln_cons ln_nil) (ex_of (ea_cons (ee_fn (ok_limits_in_1 g) (hr.mono (by decide)) tk rfl rfl (ln_cons ln_nil) (ex_of (ea_cons (ee_var rfl (by first | exact .inl rfl | exact .inr (.inl rfl) | exact .inr (.inr rfl)) d1_house d2_house) ea_nil rfl)) d1_limits_in rfl rfl) ea_nil rfl)) d1_all_below rfl rfl))
  sb_nil)
theorem ok_all_ages_1 {B : Bd} (g : G B) : Fn B "all_ages" 2 1 sem_all_ages [] := by
  obtain ⟨f, fd, h1, F⟩ := g.f_all_ages
  have bT := F.bindsN (ps := ["house"]) fun _ _ _ _ _ _ us hl => match us, hl with | [_], _ => rfl
  exact ⟨⟨f, fd, ["house"], [], [], h1, F.kp, fn_ok F sc_all_ages fun cdv A outer s H E hr => ss_all_ages g hr, bT, .nil, fun _ _ => .nil⟩⟩
theorem sc_keep_limits : FnScope ["house", "ages", "age", "limit"] ["house", "ages"] (defScope (top 31)) := fsc_by (by decide +kernel)
theorem ss_keep_limits {B : Bd} (g : G B) {f : Addr} {cdv : Value} {A : Around} {outer : List Env} {s : Shared} {H : Hp} {E : XK} (hr : Room 1 (A.deeper (envOfC "keep_limits" (defScope (top 31)) s.heap.objs.size f cdv))) :
    SB (cxOf (L2.CX B.P B.w) B.P B.w B.K B.mg B.base ["house", "ages", "age", "limit"] "keep_limits" (defScope (top 31)) f cdv A outer s H E) B.T (fun cls dd _ H => E cls dd H) (defBody (top 31)) m_keep_limits := by
  have tk : Takes (cxOf (L2.CX B.P B.w) B.P B.w B.K B.mg B.base ["house", "ages", "age", "limit"] "keep_limits" (defScope (top 31)) f cdv A outer s H E) (fun cls dd _ H => E cls dd H) := takes_of rfl rfl rfl rfl
  have hp : PassesOwn (model B.P B.w) (A.deeper (envOfC "keep_limits" (defScope (top 31)) s.heap.objs.size f cdv)) (envOfC "keep_limits" (defScope (top 31)) s.heap.objs.size f cdv) (cxOf (L2.CX B.P B.w) B.P B.w B.K B.mg B.base ["house", "ages", "age", "limit"] "keep_limits" (defScope (top 31)) f cdv A outer s H E).xe := passes_of rfl
  have hN : (["house", "ages", "age", "limit"] : List Str).Nodup := sc_keep_limits.nd
  exact (sb_cons (ss_ret (ee_callB (cd_all rfl) (by rfl) g.n_all (by decide +kernel) (eab_cons (EE.toB (en_ee (ee_comp rfl hN (ie_zip (by rfl) g.n_zip (ee_var rfl (by first | exact .inl rfl | exact .inr (.inl rfl) | exact .inr (.inr rfl)) d1_ages d2_ages) (ee_fn (ok_limits_in_1 g) (hr.mono (by decide)) tk rfl rfl (ln_cons ln_nil) (ex_of (ea_cons (ee_var rfl (by first | exact .inl rfl | exact .inr (.inl rfl) | exact .inr (.inr rfl)) d1_house d2_house) ea_nil rfl)) d1_limits_in rfl rfl) rfl rfl rfl) (blk_by (own := [("age", 2), ("limit", 3)]) (by kernel_rfl)) (fun s0 H0 C0 cl0 fp0 => (pg_tup rfl (pgs_cons (pg_name hN rfl (by first | exact .inl rfl | exact .inr rfl) (by first | exact .inl rfl | exact .inr rfl)) (pgs_cons (pg_name hN rfl (by first | exact .inl rfl | exact .inr rfl) (by first | exact .inl rfl | exact .inr rfl)) pgs_nil)))) (fun s0 H0 C0 cl0 fp0 => pts0) (fun s0 H0 C0 cl0 fp0 => (ee_cmp op_ltDD (eb_var rfl (by first | exact .inl rfl | exact .inr (.inl rfl) | exact .inr (.inr rfl)) d1_age d2_age) (eb_var rfl (by first | exact .inl rfl | exact .inr (.inl rfl) | exact .inr (.inr rfl)) d1_limit d2_limit) rfl)) (fun _ => rfl) (by decide)))) eab_nil rfl) (by decide +kernel) d1_all rfl rfl))
  sb_nil)
theorem ok_keep_limits_2 {B : Bd} (g : G B) : Fn B "keep_limits" 2 2 sem_keep_limits [] := by
  obtain ⟨f, fd, h1, F⟩ := g.f_keep_limits
  have bT := F.bindsN (ps := ["house", "ages"]) fun _ _ _ _ _ _ us hl => match us, hl with | [_, _], _ => rfl
  exact ⟨⟨f, fd, ["house", "ages"], [], [], h1, F.kp, fn_ok F sc_keep_limits fun cdv A outer s H E hr => ss_keep_limits g hr, bT, .nil, fun _ _ => .nil⟩⟩
theorem sc_aged : FnScope ["house", "ages", "looks", "place", "age"] ["house", "ages", "looks"] (defScope (top 32)) := fsc_by (by decide +kernel)
theorem ss_aged {B : Bd} (g : G B) {f : Addr} {cdv : Value} {A : Around} {outer : List Env} {s : Shared} {H : Hp} {E : XK} (hr : Room 1 (A.deeper (envOfC "aged" (defScope (top 32)) s.heap.objs.size f cdv))) :
    SB (cxOf (L2.CX B.P B.w) B.P B.w B.K B.mg B.base ["house", "ages", "looks", "place", "age"] "aged" (defScope (top 32)) f cdv A outer s H E) B.T (fun cls dd _ H => E cls dd H) (defBody (top 32)) m_aged := by
  have tk : Takes (cxOf (L2.CX B.P B.w) B.P B.w B.K B.mg B.base ["house", "ages", "looks", "place", "age"] "aged" (defScope (top 32)) f cdv A outer s H E) (fun cls dd _ H => E cls dd H) := takes_of rfl rfl rfl rfl
  have hp : PassesOwn (model B.P B.w) (A.deeper (envOfC "aged" (defScope (top 32)) s.heap.objs.size f cdv)) (envOfC "aged" (defScope (top 32)) s.heap.objs.size f cdv) (cxOf (L2.CX B.P B.w) B.P B.w B.K B.mg B.base ["house", "ages", "looks", "place", "age"] "aged" (defScope (top 32)) f cdv A outer s H E).xe := passes_of rfl
  have hN : (["house", "ages", "looks", "place", "age"] : List Str).Nodup := sc_aged.nd
  exact (sb_cons (ss_ret (ee_callTy cd_tuple (by rfl) g.n_tuple (by decide +kernel) (eab_cons (EE.toB (en_ee (ee_comp rfl hN (ie_zip (by rfl) g.n_zip (ee_fn (ok_names_of_1 g) (hr.mono (by decide)) tk rfl rfl (ln_cons ln_nil) (ex_of (ea_cons (ee_var rfl (by first | exact .inl rfl | exact .inr (.inl rfl) | exact .inr (.inr rfl)) d1_house d2_house) ea_nil rfl)) d1_names_of rfl rfl) (ee_var rfl (by first | exact .inl rfl | exact .inr (.inl rfl) | exact .inr (.inr rfl)) d1_ages d2_ages) rfl rfl rfl) (blk_by (own := [("place", 3), ("age", 4)]) (by kernel_rfl)) (fun s0 H0 C0 cl0 fp0 => (pg_tup rfl (pgs_cons (pg_name hN rfl (by first | exact .inl rfl | exact .inr rfl) (by first | exact .inl rfl | exact .inr rfl)) (pgs_cons (pg_name hN rfl (by first | exact .inl rfl | exact .inr rfl) (by first | exact .inl rfl | exact .inr rfl)) pgs_nil)))) (fun s0 H0 C0 cl0 fp0 => pts0) (fun s0 H0 C0 cl0 fp0 => (ee_if (et_mem (op_mem hr.u65 false) (ee_var rfl (by first | exact .inl rfl | exact .inr (.inl rfl) | exact .inr (.inr rfl)) d1_place d2_place) (eb_var rfl (by first | exact .inl rfl | exact .inr (.inl rfl) | exact .inr (.inr rfl)) d1_looks d2_looks) rfl) ee_int (ee_op2 op_addD (ee_var rfl (by first | exact .inl rfl | exact .inr (.inl rfl) | exact .inr (.inr rfl)) d1_age d2_age) ee_int))) (fun _ => rfl) (by decide)))) eab_nil rfl) (by decide +kernel) d1_tuple rfl rfl))
  sb_nil)
theorem ok_aged_3 {B : Bd} (g : G B) : Fn B "aged" 2 3 sem_aged [] := by
  obtain ⟨f, fd, h1, F⟩ := g.f_aged
  have bT := F.bindsN (ps := ["house", "ages", "looks"]) fun _ _ _ _ _ _ us hl => match us, hl with | [_, _, _], _ => rfl
  exact ⟨⟨f, fd, ["house", "ages", "looks"], [], [], h1, F.kp, fn_ok F sc_aged fun cdv A outer s H E hr => ss_aged g hr, bT, .nil, fun _ _ => .nil⟩⟩
theorem sc_ages_after : FnScope ["house", "ages", "look", "found"] ["house", "ages", "look"] (defScope (top 33)) := fsc_by (by decide +kernel)
theorem ss_ages_after {B : Bd} (g : G B) {f : Addr} {cdv : Value} {A : Around} {outer : List Env} {s : Shared} {H : Hp} {E : XK} (hr : Room 2 (A.deeper (envOfC "ages_after" (defScope (top 33)) s.heap.objs.size f cdv))) :
    SB (cxOf (L2.CX B.P B.w) B.P B.w B.K B.mg B.base ["house", "ages", "look", "found"] "ages_after" (defScope (top 33)) f cdv A outer s H E) B.T (fun cls dd _ H => E cls dd H) (defBody (top 33)) m_ages_after := by
  have tk : Takes (cxOf (L2.CX B.P B.w) B.P B.w B.K B.mg B.base ["house", "ages", "look", "found"] "ages_after" (defScope (top 33)) f cdv A outer s H E) (fun cls dd _ H => E cls dd H) := takes_of rfl rfl rfl rfl
  have hp : PassesOwn (model B.P B.w) (A.deeper (envOfC "ages_after" (defScope (top 33)) s.heap.objs.size f cdv)) (envOfC "ages_after" (defScope (top 33)) s.heap.objs.size f cdv) (cxOf (L2.CX B.P B.w) B.P B.w B.K B.mg B.base ["house", "ages", "look", "found"] "ages_after" (defScope (top 33)) f cdv A outer s H E).xe := passes_of rfl
  have hN : (["house", "ages", "look", "found"] : List Str).Nodup := sc_ages_after.nd
  exact (sb_cons (ss_set hN rfl (by first | exact .inl rfl | exact .inr rfl) (ee_fn (ok_aged_3 g) (hr.mono (by decide)) tk rfl rfl (ln_cons (ln_cons (ln_cons ln_nil))) (ex_of (ea_cons (ee_var rfl (by first | exact .inl rfl | exact .inr (.inl rfl) | exact .inr (.inr rfl)) d1_house d2_house) (ea_cons (ee_var rfl (by first | exact .inl rfl | exact .inr (.inl rfl) | exact .inr (.inr rfl)) d1_ages d2_ages) (ea_cons (ee_tup (ea_cons (ee_var rfl (by first | exact .inl rfl | exact .inr (.inl rfl) | exact .inr (.inr rfl)) d1_look d2_look) ea_nil rfl)) ea_nil rfl) rfl) rfl)) d1_aged rfl rfl) rfl (by first | exact .inl rfl | exact .inr rfl))
  (sb_cons (ss_ret (ee_if (et_truth (EE.toB (ee_fn (ok_keep_limits_2 g) (hr.mono (by decide)) tk rfl rfl (ln_cons (ln_cons ln_nil)) (ex_of (ea_cons (ee_var rfl (by first | exact .inl rfl | exact .inr (.inl rfl) | exact .inr (.inr rfl)) d1_house d2_house) (ea_cons (ee_var rfl (by first | exact .inl rfl | exact .inr (.inl rfl) | exact .inr (.inr rfl)) d1_found d2_found) ea_nil rfl) rfl)) d1_keep_limits rfl rfl)) (fun _ => rfl)) (ee_var rfl (by first | exact .inl rfl | exact .inr (.inl rfl) | exact .inr (.inr rfl)) d1_found d2_found) ee_non))
  sb_nil))
theorem ok_ages_after_3 {B : Bd} (g : G B) : Fn B "ages_after" 3 3 sem_ages_after [] := by
  obtain ⟨f, fd, h1, F⟩ := g.f_ages_after
  have bT := F.bindsN (ps := ["house", "ages", "look"]) fun _ _ _ _ _ _ us hl => match us, hl with | [_, _, _], _ => rfl
  exact ⟨⟨f, fd, ["house", "ages", "look"], [], [], h1, F.kp, fn_ok F sc_ages_after fun cdv A outer s H E hr => ss_ages_after g hr, bT, .nil, fun _ _ => .nil⟩⟩
theorem sc_check_house : FnScope ["value"] ["value"] (defScope (top 35)) := fsc_by (by decide +kernel)
theorem ss_check_house {B : Bd} (g : G B) {f : Addr} {cdv : Value} {A : Around} {outer : List Env} {s : Shared} {H : Hp} {E : XK} (hr : Room 5 (A.deeper (envOfC "check_house" (defScope (top 35)) s.heap.objs.size f cdv))) :
    SB (cxOf (L2.CX B.P B.w) B.P B.w B.K B.mg B.base ["value"] "check_house" (defScope (top 35)) f cdv A outer s H E) B.T (fun cls dd _ H => E cls dd H) (defBody (top 35)) m_check_house := by
  have tk : Takes (cxOf (L2.CX B.P B.w) B.P B.w B.K B.mg B.base ["value"] "check_house" (defScope (top 35)) f cdv A outer s H E) (fun cls dd _ H => E cls dd H) := takes_of rfl rfl rfl rfl
  have hp : PassesOwn (model B.P B.w) (A.deeper (envOfC "check_house" (defScope (top 35)) s.heap.objs.size f cdv)) (envOfC "check_house" (defScope (top 35)) s.heap.objs.size f cdv) (cxOf (L2.CX B.P B.w) B.P B.w B.K B.mg B.base ["value"] "check_house" (defScope (top 35)) f cdv A outer s H E).xe := passes_of rfl
  have hN : (["value"] : List Str).Nodup := sc_check_house.nd
  exact (sb_cons (ss_if (et_not (et_truth (EE.toB (ee_fn (ok_is_house_form_1 g) (hr.mono (by decide)) tk rfl rfl (ln_cons ln_nil) (ex_of (ea_cons (ee_var rfl (by first | exact .inl rfl | exact .inr (.inl rfl) | exact .inr (.inr rfl)) d1_value d2_value) ea_nil rfl)) d1_is_house_form rfl rfl)) (fun _ => rfl))) (sb_cons ss_stuck
  sb_nil) sb_nil)
  sb_nil)
theorem ok_check_house_1 {B : Bd} (g : G B) : Fn B "check_house" 6 1 sem_check_house [] := by
  obtain ⟨f, fd, h1, F⟩ := g.f_check_house
  have bT := F.bindsN (ps := ["value"]) fun _ _ _ _ _ _ us hl => match us, hl with | [_], _ => rfl
  exact ⟨⟨f, fd, ["value"], [], [], h1, F.kp, fn_ok F sc_check_house fun cdv A outer s H E hr => ss_check_house g hr, bT, .nil, fun _ _ => .nil⟩⟩
theorem sc_wrong_ages : FnScope ["house", "value", "index", "age", "pair"] ["house", "value"] (defScope (top 36)) := fsc_by (by decide +kernel)
theorem ss_wrong_ages {B : Bd} (g : G B) {f : Addr} {cdv : Value} {A : Around} {outer : List Env} {s : Shared} {H : Hp} {E : XK} (hr : Room 2 (A.deeper (envOfC "wrong_ages" (defScope (top 36)) s.heap.objs.size f cdv))) :
    SB (cxOf (L2.CX B.P B.w) B.P B.w B.K B.mg B.base ["house", "value", "index", "age", "pair"] "wrong_ages" (defScope (top 36)) f cdv A outer s H E) B.T (fun cls dd _ H => E cls dd H) (defBody (top 36)) m_wrong_ages := by
  have tk : Takes (cxOf (L2.CX B.P B.w) B.P B.w B.K B.mg B.base ["house", "value", "index", "age", "pair"] "wrong_ages" (defScope (top 36)) f cdv A outer s H E) (fun cls dd _ H => E cls dd H) := takes_of rfl rfl rfl rfl
  have hp : PassesOwn (model B.P B.w) (A.deeper (envOfC "wrong_ages" (defScope (top 36)) s.heap.objs.size f cdv)) (envOfC "wrong_ages" (defScope (top 36)) s.heap.objs.size f cdv) (cxOf (L2.CX B.P B.w) B.P B.w B.K B.mg B.base ["house", "value", "index", "age", "pair"] "wrong_ages" (defScope (top 36)) f cdv A outer s H E).xe := passes_of rfl
  have hN : (["house", "value", "index", "age", "pair"] : List Str).Nodup := sc_wrong_ages.nd
  exact (sb_cons (ss_for hp rfl (ie_enz (by rfl) g.n_enumerate (by rfl) g.n_zip (ee_var rfl (by first | exact .inl rfl | exact .inr (.inl rfl) | exact .inr (.inr rfl)) d1_value d2_value) (ee_var rfl (by first | exact .inl rfl | exact .inr (.inl rfl) | exact .inr (.inr rfl)) d1_house d2_house) rfl rfl rfl rfl) (pg_tup rfl (pgs_cons (pg_name hN rfl (by first | exact .inl rfl | exact .inr rfl) (by first | exact .inl rfl | exact .inr rfl)) (pgs_cons (pg_tup rfl (pgs_cons (pg_name hN rfl (by first | exact .inl rfl | exact .inr rfl) (by first | exact .inl rfl | exact .inr rfl)) (pgs_cons (pg_name hN rfl (by first | exact .inl rfl | exact .inr rfl) (by first | exact .inl rfl | exact .inr rfl)) pgs_nil))) pgs_nil))) (sb_cons (ss_if (et_not (et_truth (EE.toB (ee_fn (ok_is_number_3 g) (hr.mono (by decide)) tk rfl rfl (ln_cons (ln_cons (ln_cons ln_nil))) (ex_of (ea_cons (ee_var rfl (by first | exact .inl rfl | exact .inr (.inl rfl) | exact .inr (.inr rfl)) d1_age d2_age) (ea_cons ee_int (ea_cons (ee_op2 op_subD (ee_ixS hr.u1 (eb_var rfl (by first | exact .inl rfl | exact .inr (.inl rfl) | exact .inr (.inr rfl)) d1_pair d2_pair) ee_int (fun _ _ => rfl)) ee_int) ea_nil rfl) rfl) rfl)) d1_is_number rfl rfl)) (fun _ => rfl))) (sb_cons (ss_ret (ee_var rfl (by first | exact .inl rfl | exact .inr (.inl rfl) | exact .inr (.inr rfl)) d1_index d2_index))
  sb_nil) sb_nil)
  sb_nil) (fun _ => rfl))
  (sb_cons (ss_ret ee_non)
  sb_nil))
theorem ok_wrong_ages_2 {B : Bd} (g : G B) : Fn B "wrong_ages" 3 2 sem_wrong_ages [] := by
  obtain ⟨f, fd, h1, F⟩ := g.f_wrong_ages
  have bT := F.bindsN (ps := ["house", "value"]) fun _ _ _ _ _ _ us hl => match us, hl with | [_, _], _ => rfl
  exact ⟨⟨f, fd, ["house", "value"], [], [], h1, F.kp, fn_ok F sc_wrong_ages fun cdv A outer s H E hr => ss_wrong_ages g hr, bT, .nil, fun _ _ => .nil⟩⟩
theorem sc_check_ages : FnScope ["house", "value", "wrong"] ["house", "value"] (defScope (top 37)) := fsc_by (by decide +kernel)
theorem ss_check_ages {B : Bd} (g : G B) {f : Addr} {cdv : Value} {A : Around} {outer : List Env} {s : Shared} {H : Hp} {E : XK} (hr : Room 3 (A.deeper (envOfC "check_ages" (defScope (top 37)) s.heap.objs.size f cdv))) :
    SB (cxOf (L2.CX B.P B.w) B.P B.w B.K B.mg B.base ["house", "value", "wrong"] "check_ages" (defScope (top 37)) f cdv A outer s H E) B.T (fun cls dd _ H => E cls dd H) (defBody (top 37)) m_check_ages := by
  have tk : Takes (cxOf (L2.CX B.P B.w) B.P B.w B.K B.mg B.base ["house", "value", "wrong"] "check_ages" (defScope (top 37)) f cdv A outer s H E) (fun cls dd _ H => E cls dd H) := takes_of rfl rfl rfl rfl
  have hp : PassesOwn (model B.P B.w) (A.deeper (envOfC "check_ages" (defScope (top 37)) s.heap.objs.size f cdv)) (envOfC "check_ages" (defScope (top 37)) s.heap.objs.size f cdv) (cxOf (L2.CX B.P B.w) B.P B.w B.K B.mg B.base ["house", "value", "wrong"] "check_ages" (defScope (top 37)) f cdv A outer s H E).xe := passes_of rfl
  have hN : (["house", "value", "wrong"] : List Str).Nodup := sc_check_ages.nd
  exact (sb_cons (ss_if (et_not (et_truth (EE.toB (ee_fn (ok_is_tuple_of_2 g) (hr.mono (by decide)) tk rfl rfl (ln_cons (ln_cons ln_nil)) (ex_of (ea_cons (ee_var rfl (by first | exact .inl rfl | exact .inr (.inl rfl) | exact .inr (.inr rfl)) d1_value d2_value) (ea_cons (ee_callB cd_len (by rfl) g.n_len (by decide +kernel) (eab_cons (eb_var rfl (by first | exact .inl rfl | exact .inr (.inl rfl) | exact .inr (.inr rfl)) d1_house d2_house) eab_nil rfl) (by decide +kernel) d1_len rfl rfl) ea_nil rfl) rfl)) d1_is_tuple_of rfl rfl)) (fun _ => rfl))) (sb_cons ss_stuck
  sb_nil) sb_nil)
  (sb_cons (ss_set hN rfl (by first | exact .inl rfl | exact .inr rfl) (ee_fn (ok_wrong_ages_2 g) (hr.mono (by decide)) tk rfl rfl (ln_cons (ln_cons ln_nil)) (ex_of (ea_cons (ee_var rfl (by first | exact .inl rfl | exact .inr (.inl rfl) | exact .inr (.inr rfl)) d1_house d2_house) (ea_cons (ee_var rfl (by first | exact .inl rfl | exact .inr (.inl rfl) | exact .inr (.inr rfl)) d1_value d2_value) ea_nil rfl) rfl)) d1_wrong_ages rfl rfl) rfl (by first | exact .inl rfl | exact .inr rfl))
  (sb_cons (ss_if (et_notN (eb_var rfl (by first | exact .inl rfl | exact .inr (.inl rfl) | exact .inr (.inr rfl)) d1_wrong d2_wrong)) (sb_cons ss_stuck
  sb_nil) sb_nil)
  sb_nil)))
theorem ok_check_ages_2 {B : Bd} (g : G B) : Fn B "check_ages" 4 2 sem_check_ages [] := by
  obtain ⟨f, fd, h1, F⟩ := g.f_check_ages
  have bT := F.bindsN (ps := ["house", "value"]) fun _ _ _ _ _ _ us hl => match us, hl with | [_, _], _ => rfl
  exact ⟨⟨f, fd, ["house", "value"], [], [], h1, F.kp, fn_ok F sc_check_ages fun cdv A outer s H E hr => ss_check_ages g hr, bT, .nil, fun _ _ => .nil⟩⟩
theorem sc_check_way : FnScope ["value"] ["value"] (defScope (top 40)) := fsc_by (by decide +kernel)
theorem ss_check_way {B : Bd} (g : G B) {f : Addr} {cdv : Value} {A : Around} {outer : List Env} {s : Shared} {H : Hp} {E : XK} (hr : Room 2 (A.deeper (envOfC "check_way" (defScope (top 40)) s.heap.objs.size f cdv))) :
    SB (cxOf (L2.CX B.P B.w) B.P B.w B.K B.mg B.base ["value"] "check_way" (defScope (top 40)) f cdv A outer s H E) B.T (fun cls dd _ H => E cls dd H) (defBody (top 40)) m_check_way := by
  have tk : Takes (cxOf (L2.CX B.P B.w) B.P B.w B.K B.mg B.base ["value"] "check_way" (defScope (top 40)) f cdv A outer s H E) (fun cls dd _ H => E cls dd H) := takes_of rfl rfl rfl rfl
  have hp : PassesOwn (model B.P B.w) (A.deeper (envOfC "check_way" (defScope (top 40)) s.heap.objs.size f cdv)) (envOfC "check_way" (defScope (top 40)) s.heap.objs.size f cdv) (cxOf (L2.CX B.P B.w) B.P B.w B.K B.mg B.base ["value"] "check_way" (defScope (top 40)) f cdv A outer s H E).xe := passes_of rfl
  have hN : (["value"] : List Str).Nodup := sc_check_way.nd
  exact (sb_cons (ss_if (et_not (et_truth (EE.toB (ee_fn (ok_is_in_2 g) (hr.mono (by decide)) tk rfl rfl (ln_cons (ln_cons ln_nil)) (ex_of (ea_cons (ee_var rfl (by first | exact .inl rfl | exact .inr (.inl rfl) | exact .inr (.inr rfl)) d1_value d2_value) (ea_cons (ee_glob g.c_WAYS rfl d1_WAYS) ea_nil rfl) rfl)) d1_is_in rfl rfl)) (fun _ => rfl))) (sb_cons ss_stuck
  sb_nil) sb_nil)
  sb_nil)
theorem ok_check_way_1 {B : Bd} (g : G B) : Fn B "check_way" 3 1 sem_check_way [] := by
  obtain ⟨f, fd, h1, F⟩ := g.f_check_way
  have bT := F.bindsN (ps := ["value"]) fun _ _ _ _ _ _ us hl => match us, hl with | [_], _ => rfl
  exact ⟨⟨f, fd, ["value"], [], [], h1, F.kp, fn_ok F sc_check_way fun cdv A outer s H E hr => ss_check_way g hr, bT, .nil, fun _ _ => .nil⟩⟩
theorem sc_check_ruled : FnScope ["house", "ages", "way"] ["house", "ages", "way"] (defScope (top 41)) := fsc_by (by decide +kernel)
theorem ss_check_ruled {B : Bd} (g : G B) {f : Addr} {cdv : Value} {A : Around} {outer : List Env} {s : Shared} {H : Hp} {E : XK} (hr : Room 6 (A.deeper (envOfC "check_ruled" (defScope (top 41)) s.heap.objs.size f cdv))) :
    SB (cxOf (L2.CX B.P B.w) B.P B.w B.K B.mg B.base ["house", "ages", "way"] "check_ruled" (defScope (top 41)) f cdv A outer s H E) B.T (fun cls dd _ H => E cls dd H) (defBody (top 41)) m_check_ruled := by
  have tk : Takes (cxOf (L2.CX B.P B.w) B.P B.w B.K B.mg B.base ["house", "ages", "way"] "check_ruled" (defScope (top 41)) f cdv A outer s H E) (fun cls dd _ H => E cls dd H) := takes_of rfl rfl rfl rfl
  have hp : PassesOwn (model B.P B.w) (A.deeper (envOfC "check_ruled" (defScope (top 41)) s.heap.objs.size f cdv)) (envOfC "check_ruled" (defScope (top 41)) s.heap.objs.size f cdv) (cxOf (L2.CX B.P B.w) B.P B.w B.K B.mg B.base ["house", "ages", "way"] "check_ruled" (defScope (top 41)) f cdv A outer s H E).xe := passes_of rfl
  have hN : (["house", "ages", "way"] : List Str).Nodup := sc_check_ruled.nd
  exact (sb_cons (ss_expr (ee_fn (ok_check_house_1 g) (hr.mono (by decide)) tk rfl rfl (ln_cons ln_nil) (ex_of (ea_cons (ee_var rfl (by first | exact .inl rfl | exact .inr (.inl rfl) | exact .inr (.inr rfl)) d1_house d2_house) ea_nil rfl)) d1_check_house rfl rfl) rfl)
  (sb_cons (ss_expr (ee_fn (ok_check_ages_2 g) (hr.mono (by decide)) tk rfl rfl (ln_cons (ln_cons ln_nil)) (ex_of (ea_cons (ee_var rfl (by first | exact .inl rfl | exact .inr (.inl rfl) | exact .inr (.inr rfl)) d1_house d2_house) (ea_cons (ee_var rfl (by first | exact .inl rfl | exact .inr (.inl rfl) | exact .inr (.inr rfl)) d1_ages d2_ages) ea_nil rfl) rfl)) d1_check_ages rfl rfl) rfl)
  (sb_cons (ss_expr (ee_fn (ok_check_way_1 g) (hr.mono (by decide)) tk rfl rfl (ln_cons ln_nil) (ex_of (ea_cons (ee_var rfl (by first | exact .inl rfl | exact .inr (.inl rfl) | exact .inr (.inr rfl)) d1_way d2_way) ea_nil rfl)) d1_check_way rfl rfl) rfl)
  sb_nil)))
theorem ok_check_ruled_3 {B : Bd} (g : G B) : Fn B "check_ruled" 7 3 sem_check_ruled [] := by
  obtain ⟨f, fd, h1, F⟩ := g.f_check_ruled
  have bT := F.bindsN (ps := ["house", "ages", "way"]) fun _ _ _ _ _ _ us hl => match us, hl with | [_, _, _], _ => rfl
  exact ⟨⟨f, fd, ["house", "ages", "way"], [], [], h1, F.kp, fn_ok F sc_check_ruled fun cdv A outer s H E hr => ss_check_ruled g hr, bT, .nil, fun _ _ => .nil⟩⟩
theorem sc_urge_of : FnScope ["age", "limit", "way"] ["age", "limit", "way"] (defScope (top 42)) := fsc_by (by decide +kernel)
theorem ss_urge_of {B : Bd} (g : G B) {f : Addr} {cdv : Value} {A : Around} {outer : List Env} {s : Shared} {H : Hp} {E : XK} (hr : Room 0 (A.deeper (envOfC "urge_of" (defScope (top 42)) s.heap.objs.size f cdv))) :
    SB (cxOf (L2.CX B.P B.w) B.P B.w B.K B.mg B.base ["age", "limit", "way"] "urge_of" (defScope (top 42)) f cdv A outer s H E) B.T (fun cls dd _ H => E cls dd H) (defBody (top 42)) m_urge_of := by
  have tk : Takes (cxOf (L2.CX B.P B.w) B.P B.w B.K B.mg B.base ["age", "limit", "way"] "urge_of" (defScope (top 42)) f cdv A outer s H E) (fun cls dd _ H => E cls dd H) := takes_of rfl rfl rfl rfl
  have hp : PassesOwn (model B.P B.w) (A.deeper (envOfC "urge_of" (defScope (top 42)) s.heap.objs.size f cdv)) (envOfC "urge_of" (defScope (top 42)) s.heap.objs.size f cdv) (cxOf (L2.CX B.P B.w) B.P B.w B.K B.mg B.base ["age", "limit", "way"] "urge_of" (defScope (top 42)) f cdv A outer s H E).xe := passes_of rfl
  have hN : (["age", "limit", "way"] : List Str).Nodup := sc_urge_of.nd
  exact (sb_cons (ss_if (et_cmp (op_eqDD hr.units) (eb_var rfl (by first | exact .inl rfl | exact .inr (.inl rfl) | exact .inr (.inr rfl)) d1_way d2_way) (EE.toB (ee_str (okS_lit (by decide +kernel)))) rfl) (sb_cons (ss_ret (ee_tup (ea_cons (ee_op2 op_subD (ee_var rfl (by first | exact .inl rfl | exact .inr (.inl rfl) | exact .inr (.inr rfl)) d1_age d2_age) (ee_var rfl (by first | exact .inl rfl | exact .inr (.inl rfl) | exact .inr (.inr rfl)) d1_limit d2_limit)) (ea_cons ee_int ea_nil rfl) rfl)))
  sb_nil) sb_nil)
  (sb_cons (ss_ret (ee_if (et_cmp (op_eqDD hr.units) (eb_var rfl (by first | exact .inl rfl | exact .inr (.inl rfl) | exact .inr (.inr rfl)) d1_way d2_way) (EE.toB (ee_str (okS_lit (by decide +kernel)))) rfl) (ee_tup (ea_cons (ee_op2 op_addD (ee_var rfl (by first | exact .inl rfl | exact .inr (.inl rfl) | exact .inr (.inr rfl)) d1_age d2_age) ee_int) (ea_cons (ee_var rfl (by first | exact .inl rfl | exact .inr (.inl rfl) | exact .inr (.inr rfl)) d1_limit d2_limit) ea_nil rfl) rfl)) (ee_tup (ea_cons (ee_var rfl (by first | exact .inl rfl | exact .inr (.inl rfl) | exact .inr (.inr rfl)) d1_age d2_age) (ea_cons ee_int ea_nil rfl) rfl))))
  sb_nil))
theorem ok_urge_of_3 {B : Bd} (g : G B) : Fn B "urge_of" 1 3 sem_urge_of [] := by
  obtain ⟨f, fd, h1, F⟩ := g.f_urge_of
  have bT := F.bindsN (ps := ["age", "limit", "way"]) fun _ _ _ _ _ _ us hl => match us, hl with | [_, _, _], _ => rfl
  exact ⟨⟨f, fd, ["age", "limit", "way"], [], [], h1, F.kp, fn_ok F sc_urge_of fun cdv A outer s H E hr => ss_urge_of g hr, bT, .nil, fun _ _ => .nil⟩⟩
theorem sc_look_by : FnScope ["house", "ages", "way", "urges", "best", "index", "urge", "age", "_", "limit"] ["house", "ages", "way"] (defScope (top 43)) := fsc_by (by decide +kernel)
theorem ss_look_by {B : Bd} (g : G B) {f : Addr} {cdv : Value} {A : Around} {outer : List Env} {s : Shared} {H : Hp} {E : XK} (hr : Room 1 (A.deeper (envOfC "look_by" (defScope (top 43)) s.heap.objs.size f cdv))) :
    SB (cxOf (L2.CX B.P B.w) B.P B.w B.K B.mg B.base ["house", "ages", "way", "urges", "best", "index", "urge", "age", "_", "limit"] "look_by" (defScope (top 43)) f cdv A outer s H E) B.T (fun cls dd _ H => E cls dd H) (defBody (top 43)) m_look_by := by
  have tk : Takes (cxOf (L2.CX B.P B.w) B.P B.w B.K B.mg B.base ["house", "ages", "way", "urges", "best", "index", "urge", "age", "_", "limit"] "look_by" (defScope (top 43)) f cdv A outer s H E) (fun cls dd _ H => E cls dd H) := takes_of rfl rfl rfl rfl
  have hp : PassesOwn (model B.P B.w) (A.deeper (envOfC "look_by" (defScope (top 43)) s.heap.objs.size f cdv)) (envOfC "look_by" (defScope (top 43)) s.heap.objs.size f cdv) (cxOf (L2.CX B.P B.w) B.P B.w B.K B.mg B.base ["house", "ages", "way", "urges", "best", "index", "urge", "age", "_", "limit"] "look_by" (defScope (top 43)) f cdv A outer s H E).xe := passes_of rfl
  have hN : (["house", "ages", "way", "urges", "best", "index", "urge", "age", "_", "limit"] : List Str).Nodup := sc_look_by.nd
  exact (sb_cons (ss_setLc rfl hN rfl rfl (sw_true rfl rfl rfl rfl) (ie_zip (by rfl) g.n_zip (ee_var rfl (by first | exact .inl rfl | exact .inr (.inl rfl) | exact .inr (.inr rfl)) d1_ages d2_ages) (ee_var rfl (by first | exact .inl rfl | exact .inr (.inl rfl) | exact .inr (.inr rfl)) d1_house d2_house) rfl rfl rfl) (blk_by (own := [("age", 7), ("_", 8), ("limit", 9)]) (by kernel_rfl)) (fun s0 H0 C0 cl0 fp0 => (pg_tup rfl (pgs_cons (pg_name hN rfl (by first | exact .inl rfl | exact .inr rfl) (by first | exact .inl rfl | exact .inr rfl)) (pgs_cons (pg_tup rfl (pgs_cons (pg_name hN rfl (by first | exact .inl rfl | exact .inr rfl) (by first | exact .inl rfl | exact .inr rfl)) (pgs_cons (pg_name hN rfl (by first | exact .inl rfl | exact .inr rfl) (by first | exact .inl rfl | exact .inr rfl)) pgs_nil))) pgs_nil)))) (fun s0 H0 C0 cl0 fp0 => pts0) (fun s0 H0 C0 cl0 fp0 => (ee_fn (ok_urge_of_3 g) (hr.mono (by decide)) tk_blk rfl rfl (ln_cons (ln_cons (ln_cons ln_nil))) (ex_of (ea_cons (ee_var rfl (by first | exact .inl rfl | exact .inr (.inl rfl) | exact .inr (.inr rfl)) d1_age d2_age) (ea_cons (ee_var rfl (by first | exact .inl rfl | exact .inr (.inl rfl) | exact .inr (.inr rfl)) d1_limit d2_limit) (ea_cons (ee_var rfl (by first | exact .inl rfl | exact .inr (.inl rfl) | exact .inr (.inr rfl)) d1_way d2_way) ea_nil rfl) rfl) rfl)) d1_urge_of rfl rfl)) (fun _ => rfl) (by decide))
  (sb_cons (ss_set hN rfl (by first | exact .inl rfl | exact .inr rfl) ee_int rfl (by first | exact .inl rfl | exact .inr rfl))
  (sb_cons (ss_for hp rfl (ie_enum (by rfl) g.n_enumerate (ee_var rfl (by first | exact .inl rfl | exact .inr (.inl rfl) | exact .inr (.inr rfl)) d1_urges d2_urges) rfl) (pg_tup rfl (pgs_cons (pg_name hN rfl (by first | exact .inl rfl | exact .inr rfl) (by first | exact .inl rfl | exact .inr rfl)) (pgs_cons (pg_name hN rfl (by first | exact .inl rfl | exact .inr rfl) (by first | exact .inl rfl | exact .inr rfl)) pgs_nil))) (sb_cons (ss_if (et_truth (EE.toB (ee_fn (ok_is_less_2 g) (hr.mono (by decide)) tk rfl rfl (ln_cons (ln_cons ln_nil)) (ex_of (ea_cons (ee_ixS hr.u1 (eb_var rfl (by first | exact .inl rfl | exact .inr (.inl rfl) | exact .inr (.inr rfl)) d1_urges d2_urges) (ee_var rfl (by first | exact .inl rfl | exact .inr (.inl rfl) | exact .inr (.inr rfl)) d1_best d2_best) (fun _ _ => rfl)) (ea_cons (ee_var rfl (by first | exact .inl rfl | exact .inr (.inl rfl) | exact .inr (.inr rfl)) d1_urge d2_urge) ea_nil rfl) rfl)) d1_is_less rfl rfl)) (fun _ => rfl)) (sb_cons (ss_set hN rfl (by first | exact .inl rfl | exact .inr rfl) (ee_var rfl (by first | exact .inl rfl | exact .inr (.inl rfl) | exact .inr (.inr rfl)) d1_index d2_index) rfl (by first | exact .inl rfl | exact .inr rfl))
  sb_nil) sb_nil)
  sb_nil) (fun _ => rfl))
  (sb_cons (ss_ret (ee_ixS hr.u1 (EE.toB (ee_fn (ok_names_of_1 g) (hr.mono (by decide)) tk rfl rfl (ln_cons ln_nil) (ex_of (ea_cons (ee_var rfl (by first | exact .inl rfl | exact .inr (.inl rfl) | exact .inr (.inr rfl)) d1_house d2_house) ea_nil rfl)) d1_names_of rfl rfl)) (ee_var rfl (by first | exact .inl rfl | exact .inr (.inl rfl) | exact .inr (.inr rfl)) d1_best d2_best) (fun _ _ => rfl)))
  sb_nil))))
theorem ok_look_by_3 {B : Bd} (g : G B) : Fn B "look_by" 2 3 sem_look_by [] := by
  obtain ⟨f, fd, h1, F⟩ := g.f_look_by
  have bT := F.bindsN (ps := ["house", "ages", "way"]) fun _ _ _ _ _ _ us hl => match us, hl with | [_, _, _], _ => rfl
  exact ⟨⟨f, fd, ["house", "ages", "way"], [], [], h1, F.kp, fn_ok F sc_look_by fun cdv A outer s H E hr => ss_look_by g hr, bT, .nil, fun _ _ => .nil⟩⟩
theorem sc_led_by : FnScope ["house", "ages", "way", "places", "looks", "here", "look"] ["house", "ages", "way"] (defScope (top 44)) := fsc_by (by decide +kernel)
theorem ss_led_by {B : Bd} (g : G B) {f : Addr} {cdv : Value} {A : Around} {outer : List Env} {s : Shared} {H : Hp} {E : XK} (hr : Room 3 (A.deeper (envOfC "led_by" (defScope (top 44)) s.heap.objs.size f cdv))) :
    SB (cxOf (L2.CX B.P B.w) B.P B.w B.K B.mg B.base ["house", "ages", "way", "places", "looks", "here", "look"] "led_by" (defScope (top 44)) f cdv A outer s H E) B.T (fun cls dd _ H => E cls dd H) (defBody (top 44)) m_led_by := by
  have tk : Takes (cxOf (L2.CX B.P B.w) B.P B.w B.K B.mg B.base ["house", "ages", "way", "places", "looks", "here", "look"] "led_by" (defScope (top 44)) f cdv A outer s H E) (fun cls dd _ H => E cls dd H) := takes_of rfl rfl rfl rfl
  have hp : PassesOwn (model B.P B.w) (A.deeper (envOfC "led_by" (defScope (top 44)) s.heap.objs.size f cdv)) (envOfC "led_by" (defScope (top 44)) s.heap.objs.size f cdv) (cxOf (L2.CX B.P B.w) B.P B.w B.K B.mg B.base ["house", "ages", "way", "places", "looks", "here", "look"] "led_by" (defScope (top 44)) f cdv A outer s H E).xe := passes_of rfl
  have hN : (["house", "ages", "way", "places", "looks", "here", "look"] : List Str).Nodup := sc_led_by.nd
  exact (sb_cons (ss_par3 rfl hN rfl rfl rfl (by decide) (by decide) (by decide) rfl rfl rfl (es_own eo_dct0 (es_own (eo_of (en_lst ea_nil)) (es_val (ee_var rfl (by first | exact .inl rfl | exact .inr (.inl rfl) | exact .inr (.inr rfl)) d1_ages d2_ages) es_nil rfl) rfl) rfl) rfl rfl)
  (sb_cons (ss_while 1000000 hp (PW.pt (ew_and (et_notN (eb_var rfl (by first | exact .inl rfl | exact .inr (.inl rfl) | exact .inr (.inr rfl)) d1_here d2_here)) (ew_and1 (et_mem (op_mem hr.u65 true) (ee_var rfl (by first | exact .inl rfl | exact .inr (.inl rfl) | exact .inr (.inr rfl)) d1_here d2_here) (eb_var rfl (by first | exact .inl rfl | exact .inr (.inl rfl) | exact .inr (.inr rfl)) d1_places d2_places) rfl)))) (sb_cons (ss_put hr.u1 rfl (by first | exact .inl rfl | exact .inr (.inl rfl) | exact .inr (.inr rfl)) d1_places d2_places (ee_callB cd_len (by rfl) g.n_len (by decide +kernel) (eab_cons (eb_var rfl (by first | exact .inl rfl | exact .inr (.inl rfl) | exact .inr (.inr rfl)) d1_looks d2_looks) eab_nil rfl) (by decide +kernel) d1_len rfl rfl) (ee_var rfl (by first | exact .inl rfl | exact .inr (.inl rfl) | exact .inr (.inr rfl)) d1_here d2_here) rfl rfl rfl (fun _ => rfl))
  (sb_cons (ss_set hN rfl (by first | exact .inl rfl | exact .inr rfl) (ee_fn (ok_look_by_3 g) (hr.mono (by decide)) tk rfl rfl (ln_cons (ln_cons (ln_cons ln_nil))) (ex_of (ea_cons (ee_var rfl (by first | exact .inl rfl | exact .inr (.inl rfl) | exact .inr (.inr rfl)) d1_house d2_house) (ea_cons (ee_var rfl (by first | exact .inl rfl | exact .inr (.inl rfl) | exact .inr (.inr rfl)) d1_here d2_here) (ea_cons (ee_var rfl (by first | exact .inl rfl | exact .inr (.inl rfl) | exact .inr (.inr rfl)) d1_way d2_way) ea_nil rfl) rfl) rfl)) d1_look_by rfl rfl) rfl (by first | exact .inl rfl | exact .inr rfl))
  (sb_cons (ss_app rfl (by first | exact .inl rfl | exact .inr (.inl rfl) | exact .inr (.inr rfl)) d1_looks d2_looks (ee_var rfl (by first | exact .inl rfl | exact .inr (.inl rfl) | exact .inr (.inr rfl)) d1_look d2_look) rfl rfl rfl rfl rfl rfl)
  (sb_cons (ss_set hN rfl (by first | exact .inl rfl | exact .inr rfl) (ee_fn (ok_ages_after_3 g) (hr.mono (by decide)) tk rfl rfl (ln_cons (ln_cons (ln_cons ln_nil))) (ex_of (ea_cons (ee_var rfl (by first | exact .inl rfl | exact .inr (.inl rfl) | exact .inr (.inr rfl)) d1_house d2_house) (ea_cons (ee_var rfl (by first | exact .inl rfl | exact .inr (.inl rfl) | exact .inr (.inr rfl)) d1_here d2_here) (ea_cons (ee_var rfl (by first | exact .inl rfl | exact .inr (.inl rfl) | exact .inr (.inr rfl)) d1_look d2_look) ea_nil rfl) rfl) rfl)) d1_ages_after rfl rfl) rfl (by first | exact .inl rfl | exact .inr rfl))
  sb_nil)))))
  (sb_frz (sb_cons (ss_ret (ee_tup (ea_cons (ee_var rfl (by first | exact .inl rfl | exact .inr (.inl rfl) | exact .inr (.inr rfl)) d1_looks d2_looks) (ea_cons (ee_if (et_isN (eb_var rfl (by first | exact .inl rfl | exact .inr (.inl rfl) | exact .inr (.inr rfl)) d1_here d2_here)) ee_non (ee_ixS hr.u1 (eb_var rfl (by first | exact .inl rfl | exact .inr (.inl rfl) | exact .inr (.inr rfl)) d1_places d2_places) (ee_var rfl (by first | exact .inl rfl | exact .inr (.inl rfl) | exact .inr (.inr rfl)) d1_here d2_here) (fun _ _ => rfl))) ea_nil rfl) rfl)))
  sb_nil))))
theorem ok_led_by_3 {B : Bd} (g : G B) : Fn B "led_by" 4 3 sem_led_by [] := by
  obtain ⟨f, fd, h1, F⟩ := g.f_led_by
  have bT := F.bindsN (ps := ["house", "ages", "way"]) fun _ _ _ _ _ _ us hl => match us, hl with | [_, _, _], _ => rfl
  exact ⟨⟨f, fd, ["house", "ages", "way"], [], [], h1, F.kp, fn_ok F sc_led_by fun cdv A outer s H E hr => ss_led_by g hr, bT, .nil, fun _ _ => .nil⟩⟩
theorem sc_rule_look : FnScope ["house", "ages", "way"] ["house", "ages", "way"] (defScope (top 45)) := fsc_by (by decide +kernel)
theorem ss_rule_look {B : Bd} (g : G B) {f : Addr} {cdv : Value} {A : Around} {outer : List Env} {s : Shared} {H : Hp} {E : XK} (hr : Room 7 (A.deeper (envOfC "rule_look" (defScope (top 45)) s.heap.objs.size f cdv))) :
    SB (cxOf (L2.CX B.P B.w) B.P B.w B.K B.mg B.base ["house", "ages", "way"] "rule_look" (defScope (top 45)) f cdv A outer s H E) B.T (fun cls dd _ H => E cls dd H) (defBody (top 45)) m_rule_look := by
  have tk : Takes (cxOf (L2.CX B.P B.w) B.P B.w B.K B.mg B.base ["house", "ages", "way"] "rule_look" (defScope (top 45)) f cdv A outer s H E) (fun cls dd _ H => E cls dd H) := takes_of rfl rfl rfl rfl
  have hp : PassesOwn (model B.P B.w) (A.deeper (envOfC "rule_look" (defScope (top 45)) s.heap.objs.size f cdv)) (envOfC "rule_look" (defScope (top 45)) s.heap.objs.size f cdv) (cxOf (L2.CX B.P B.w) B.P B.w B.K B.mg B.base ["house", "ages", "way"] "rule_look" (defScope (top 45)) f cdv A outer s H E).xe := passes_of rfl
  have hN : (["house", "ages", "way"] : List Str).Nodup := sc_rule_look.nd
  exact (sb_cons (ss_expr (ee_fn (ok_check_ruled_3 g) (hr.mono (by decide)) tk rfl rfl (ln_cons (ln_cons (ln_cons ln_nil))) (ex_of (ea_cons (ee_var rfl (by first | exact .inl rfl | exact .inr (.inl rfl) | exact .inr (.inr rfl)) d1_house d2_house) (ea_cons (ee_var rfl (by first | exact .inl rfl | exact .inr (.inl rfl) | exact .inr (.inr rfl)) d1_ages d2_ages) (ea_cons (ee_var rfl (by first | exact .inl rfl | exact .inr (.inl rfl) | exact .inr (.inr rfl)) d1_way d2_way) ea_nil rfl) rfl) rfl)) d1_check_ruled rfl rfl) rfl)
  (sb_cons (ss_ret (ee_fn (ok_look_by_3 g) (hr.mono (by decide)) tk rfl rfl (ln_cons (ln_cons (ln_cons ln_nil))) (ex_of (ea_cons (ee_var rfl (by first | exact .inl rfl | exact .inr (.inl rfl) | exact .inr (.inr rfl)) d1_house d2_house) (ea_cons (ee_var rfl (by first | exact .inl rfl | exact .inr (.inl rfl) | exact .inr (.inr rfl)) d1_ages d2_ages) (ea_cons (ee_var rfl (by first | exact .inl rfl | exact .inr (.inl rfl) | exact .inr (.inr rfl)) d1_way d2_way) ea_nil rfl) rfl) rfl)) d1_look_by rfl rfl))
  sb_nil))
theorem ok_rule_look_3 {B : Bd} (g : G B) : Fn B "rule_look" 8 3 sem_rule_look [] := by
  obtain ⟨f, fd, h1, F⟩ := g.f_rule_look
  have bT := F.bindsN (ps := ["house", "ages", "way"]) fun _ _ _ _ _ _ us hl => match us, hl with | [_, _, _], _ => rfl
  exact ⟨⟨f, fd, ["house", "ages", "way"], [], [], h1, F.kp, fn_ok F sc_rule_look fun cdv A outer s H E hr => ss_rule_look g hr, bT, .nil, fun _ _ => .nil⟩⟩
theorem kw_rule_look_2 {B : Bd} (g : G B) : FnK B "rule_look" 8 2 ["way"] sem_rule_look := by
  obtain ⟨f, fd, h1, F⟩ := g.f_rule_look
  exact ⟨⟨f, fd, ["house", "ages", "way"], fun us ws => us ++ ws, h1, F.kp, fn_ok F sc_rule_look fun cdv A outer s H E hr => ss_rule_look g hr, kbn_of F fun _ _ _ _ _ _ us ws h1 h2 => match us, ws, h1, h2 with | [_, _], [_], _, _ => rfl⟩⟩
theorem sc_breaks_by : FnScope ["house", "ages", "way", "looks", "first"] ["house", "ages", "way"] (defScope (top 46)) := fsc_by (by decide +kernel)
theorem ss_breaks_by {B : Bd} (g : G B) {f : Addr} {cdv : Value} {A : Around} {outer : List Env} {s : Shared} {H : Hp} {E : XK} (hr : Room 7 (A.deeper (envOfC "breaks_by" (defScope (top 46)) s.heap.objs.size f cdv))) :
    SB (cxOf (L2.CX B.P B.w) B.P B.w B.K B.mg B.base ["house", "ages", "way", "looks", "first"] "breaks_by" (defScope (top 46)) f cdv A outer s H E) B.T (fun cls dd _ H => E cls dd H) (defBody (top 46)) m_breaks_by := by
  have tk : Takes (cxOf (L2.CX B.P B.w) B.P B.w B.K B.mg B.base ["house", "ages", "way", "looks", "first"] "breaks_by" (defScope (top 46)) f cdv A outer s H E) (fun cls dd _ H => E cls dd H) := takes_of rfl rfl rfl rfl
  have hp : PassesOwn (model B.P B.w) (A.deeper (envOfC "breaks_by" (defScope (top 46)) s.heap.objs.size f cdv)) (envOfC "breaks_by" (defScope (top 46)) s.heap.objs.size f cdv) (cxOf (L2.CX B.P B.w) B.P B.w B.K B.mg B.base ["house", "ages", "way", "looks", "first"] "breaks_by" (defScope (top 46)) f cdv A outer s H E).xe := passes_of rfl
  have hN : (["house", "ages", "way", "looks", "first"] : List Str).Nodup := sc_breaks_by.nd
  exact (sb_cons (ss_expr (ee_fn (ok_check_ruled_3 g) (hr.mono (by decide)) tk rfl rfl (ln_cons (ln_cons (ln_cons ln_nil))) (ex_of (ea_cons (ee_var rfl (by first | exact .inl rfl | exact .inr (.inl rfl) | exact .inr (.inr rfl)) d1_house d2_house) (ea_cons (ee_var rfl (by first | exact .inl rfl | exact .inr (.inl rfl) | exact .inr (.inr rfl)) d1_ages d2_ages) (ea_cons (ee_var rfl (by first | exact .inl rfl | exact .inr (.inl rfl) | exact .inr (.inr rfl)) d1_way d2_way) ea_nil rfl) rfl) rfl)) d1_check_ruled rfl rfl) rfl)
  (sb_cons (ss_setT (ee_fn (ok_led_by_3 g) (hr.mono (by decide)) tk rfl rfl (ln_cons (ln_cons (ln_cons ln_nil))) (ex_of (ea_cons (ee_var rfl (by first | exact .inl rfl | exact .inr (.inl rfl) | exact .inr (.inr rfl)) d1_house d2_house) (ea_cons (ee_var rfl (by first | exact .inl rfl | exact .inr (.inl rfl) | exact .inr (.inr rfl)) d1_ages d2_ages) (ea_cons (ee_var rfl (by first | exact .inl rfl | exact .inr (.inl rfl) | exact .inr (.inr rfl)) d1_way d2_way) ea_nil rfl) rfl) rfl)) d1_led_by rfl rfl) (pg_tup rfl (pgs_cons (pg_name hN rfl (by first | exact .inl rfl | exact .inr rfl) (by first | exact .inl rfl | exact .inr rfl)) (pgs_cons (pg_name hN rfl (by first | exact .inl rfl | exact .inr rfl) (by first | exact .inl rfl | exact .inr rfl)) pgs_nil))) rfl rfl rfl)
  (sb_cons (ss_ret (ee_if (et_isN (eb_var rfl (by first | exact .inl rfl | exact .inr (.inl rfl) | exact .inr (.inr rfl)) d1_first d2_first)) (ee_callB cd_len (by rfl) g.n_len (by decide +kernel) (eab_cons (eb_var rfl (by first | exact .inl rfl | exact .inr (.inl rfl) | exact .inr (.inr rfl)) d1_looks d2_looks) eab_nil rfl) (by decide +kernel) d1_len rfl rfl) ee_non))
  sb_nil)))
theorem ok_breaks_by_3 {B : Bd} (g : G B) : Fn B "breaks_by" 8 3 sem_breaks_by [] := by
  obtain ⟨f, fd, h1, F⟩ := g.f_breaks_by
  have bT := F.bindsN (ps := ["house", "ages", "way"]) fun _ _ _ _ _ _ us hl => match us, hl with | [_, _, _], _ => rfl
  exact ⟨⟨f, fd, ["house", "ages", "way"], [], [], h1, F.kp, fn_ok F sc_breaks_by fun cdv A outer s H E hr => ss_breaks_by g hr, bT, .nil, fun _ _ => .nil⟩⟩
theorem kw_breaks_by_2 {B : Bd} (g : G B) : FnK B "breaks_by" 8 2 ["way"] sem_breaks_by := by
  obtain ⟨f, fd, h1, F⟩ := g.f_breaks_by
  exact ⟨⟨f, fd, ["house", "ages", "way"], fun us ws => us ++ ws, h1, F.kp, fn_ok F sc_breaks_by fun cdv A outer s H E hr => ss_breaks_by g hr, kbn_of F fun _ _ _ _ _ _ us ws h1 h2 => match us, ws, h1, h2 with | [_, _], [_], _, _ => rfl⟩⟩
theorem sc_rule_ring : FnScope ["house", "ages", "way", "looks", "first"] ["house", "ages", "way"] (defScope (top 47)) := fsc_by (by decide +kernel)
theorem ss_rule_ring {B : Bd} (g : G B) {f : Addr} {cdv : Value} {A : Around} {outer : List Env} {s : Shared} {H : Hp} {E : XK} (hr : Room 7 (A.deeper (envOfC "rule_ring" (defScope (top 47)) s.heap.objs.size f cdv))) :
    SB (cxOf (L2.CX B.P B.w) B.P B.w B.K B.mg B.base ["house", "ages", "way", "looks", "first"] "rule_ring" (defScope (top 47)) f cdv A outer s H E) B.T (fun cls dd _ H => E cls dd H) (defBody (top 47)) m_rule_ring := by
  have tk : Takes (cxOf (L2.CX B.P B.w) B.P B.w B.K B.mg B.base ["house", "ages", "way", "looks", "first"] "rule_ring" (defScope (top 47)) f cdv A outer s H E) (fun cls dd _ H => E cls dd H) := takes_of rfl rfl rfl rfl
  have hp : PassesOwn (model B.P B.w) (A.deeper (envOfC "rule_ring" (defScope (top 47)) s.heap.objs.size f cdv)) (envOfC "rule_ring" (defScope (top 47)) s.heap.objs.size f cdv) (cxOf (L2.CX B.P B.w) B.P B.w B.K B.mg B.base ["house", "ages", "way", "looks", "first"] "rule_ring" (defScope (top 47)) f cdv A outer s H E).xe := passes_of rfl
  have hN : (["house", "ages", "way", "looks", "first"] : List Str).Nodup := sc_rule_ring.nd
  exact (sb_cons (ss_expr (ee_fn (ok_check_ruled_3 g) (hr.mono (by decide)) tk rfl rfl (ln_cons (ln_cons (ln_cons ln_nil))) (ex_of (ea_cons (ee_var rfl (by first | exact .inl rfl | exact .inr (.inl rfl) | exact .inr (.inr rfl)) d1_house d2_house) (ea_cons (ee_var rfl (by first | exact .inl rfl | exact .inr (.inl rfl) | exact .inr (.inr rfl)) d1_ages d2_ages) (ea_cons (ee_var rfl (by first | exact .inl rfl | exact .inr (.inl rfl) | exact .inr (.inr rfl)) d1_way d2_way) ea_nil rfl) rfl) rfl)) d1_check_ruled rfl rfl) rfl)
  (sb_cons (ss_setT (ee_fn (ok_led_by_3 g) (hr.mono (by decide)) tk rfl rfl (ln_cons (ln_cons (ln_cons ln_nil))) (ex_of (ea_cons (ee_var rfl (by first | exact .inl rfl | exact .inr (.inl rfl) | exact .inr (.inr rfl)) d1_house d2_house) (ea_cons (ee_var rfl (by first | exact .inl rfl | exact .inr (.inl rfl) | exact .inr (.inr rfl)) d1_ages d2_ages) (ea_cons (ee_var rfl (by first | exact .inl rfl | exact .inr (.inl rfl) | exact .inr (.inr rfl)) d1_way d2_way) ea_nil rfl) rfl) rfl)) d1_led_by rfl rfl) (pg_tup rfl (pgs_cons (pg_name hN rfl (by first | exact .inl rfl | exact .inr rfl) (by first | exact .inl rfl | exact .inr rfl)) (pgs_cons (pg_name hN rfl (by first | exact .inl rfl | exact .inr rfl) (by first | exact .inl rfl | exact .inr rfl)) pgs_nil))) rfl rfl rfl)
  (sb_cons (ss_ret (ee_if (et_isN (eb_var rfl (by first | exact .inl rfl | exact .inr (.inl rfl) | exact .inr (.inr rfl)) d1_first d2_first)) ee_non (ee_callTy cd_tuple (by rfl) g.n_tuple (by decide +kernel) (eab_cons (EE.toB (ee_sl (ee_var rfl (by first | exact .inl rfl | exact .inr (.inl rfl) | exact .inr (.inr rfl)) d1_looks d2_looks) (eo_some (ee_var rfl (by first | exact .inl rfl | exact .inr (.inl rfl) | exact .inr (.inr rfl)) d1_first d2_first)) eo_none)) eab_nil rfl) (by decide +kernel) d1_tuple rfl rfl)))
  sb_nil)))
theorem ok_rule_ring_3 {B : Bd} (g : G B) : Fn B "rule_ring" 8 3 sem_rule_ring [] := by
  obtain ⟨f, fd, h1, F⟩ := g.f_rule_ring
  have bT := F.bindsN (ps := ["house", "ages", "way"]) fun _ _ _ _ _ _ us hl => match us, hl with | [_, _, _], _ => rfl
  exact ⟨⟨f, fd, ["house", "ages", "way"], [], [], h1, F.kp, fn_ok F sc_rule_ring fun cdv A outer s H E hr => ss_rule_ring g hr, bT, .nil, fun _ _ => .nil⟩⟩
theorem kw_rule_ring_2 {B : Bd} (g : G B) : FnK B "rule_ring" 8 2 ["way"] sem_rule_ring := by
  obtain ⟨f, fd, h1, F⟩ := g.f_rule_ring
  exact ⟨⟨f, fd, ["house", "ages", "way"], fun us ws => us ++ ws, h1, F.kp, fn_ok F sc_rule_ring fun cdv A outer s H E hr => ss_rule_ring g hr, kbn_of F fun _ _ _ _ _ _ us ws h1 h2 => match us, ws, h1, h2 with | [_, _], [_], _, _ => rfl⟩⟩
theorem sc_kept_by_rule : FnScope ["house", "way", "ages"] ["house", "way"] (defScope (top 48)) := fsc_by (by decide +kernel)
theorem ss_kept_by_rule {B : Bd} (g : G B) {f : Addr} {cdv : Value} {A : Around} {outer : List Env} {s : Shared} {H : Hp} {E : XK} (hr : Room 6 (A.deeper (envOfC "kept_by_rule" (defScope (top 48)) s.heap.objs.size f cdv))) :
    SB (cxOf (L2.CX B.P B.w) B.P B.w B.K B.mg B.base ["house", "way", "ages"] "kept_by_rule" (defScope (top 48)) f cdv A outer s H E) B.T (fun cls dd _ H => E cls dd H) (defBody (top 48)) m_kept_by_rule := by
  have tk : Takes (cxOf (L2.CX B.P B.w) B.P B.w B.K B.mg B.base ["house", "way", "ages"] "kept_by_rule" (defScope (top 48)) f cdv A outer s H E) (fun cls dd _ H => E cls dd H) := takes_of rfl rfl rfl rfl
  have hp : PassesOwn (model B.P B.w) (A.deeper (envOfC "kept_by_rule" (defScope (top 48)) s.heap.objs.size f cdv)) (envOfC "kept_by_rule" (defScope (top 48)) s.heap.objs.size f cdv) (cxOf (L2.CX B.P B.w) B.P B.w B.K B.mg B.base ["house", "way", "ages"] "kept_by_rule" (defScope (top 48)) f cdv A outer s H E).xe := passes_of rfl
  have hN : (["house", "way", "ages"] : List Str).Nodup := sc_kept_by_rule.nd
  exact (sb_cons (ss_expr (ee_fn (ok_check_house_1 g) (hr.mono (by decide)) tk rfl rfl (ln_cons ln_nil) (ex_of (ea_cons (ee_var rfl (by first | exact .inl rfl | exact .inr (.inl rfl) | exact .inr (.inr rfl)) d1_house d2_house) ea_nil rfl)) d1_check_house rfl rfl) rfl)
  (sb_cons (ss_expr (ee_fn (ok_check_way_1 g) (hr.mono (by decide)) tk rfl rfl (ln_cons ln_nil) (ex_of (ea_cons (ee_var rfl (by first | exact .inl rfl | exact .inr (.inl rfl) | exact .inr (.inr rfl)) d1_way d2_way) ea_nil rfl)) d1_check_way rfl rfl) rfl)
  (sb_cons (ss_ret (ee_callB cd_len (by rfl) g.n_len (by decide +kernel) (eab_cons (EE.toB (en_ee (ee_comp rfl hN (ie_val (ee_fn (ok_all_ages_1 g) (hr.mono (by decide)) tk rfl rfl (ln_cons ln_nil) (ex_of (ea_cons (ee_var rfl (by first | exact .inl rfl | exact .inr (.inl rfl) | exact .inr (.inr rfl)) d1_house d2_house) ea_nil rfl)) d1_all_ages rfl rfl)) (blk_by (own := [("ages", 2)]) (by kernel_rfl)) (fun s0 H0 C0 cl0 fp0 => (pg_name hN rfl (by first | exact .inl rfl | exact .inr rfl) (by first | exact .inl rfl | exact .inr rfl))) (fun s0 H0 C0 cl0 fp0 => (pts1 (et_notN (EE.toB (ee_ixS hr.u1 (EE.toB (ee_fn (ok_led_by_3 g) (hr.mono (by decide)) tk_blk rfl rfl (ln_cons (ln_cons (ln_cons ln_nil))) (ex_of (ea_cons (ee_var rfl (by first | exact .inl rfl | exact .inr (.inl rfl) | exact .inr (.inr rfl)) d1_house d2_house) (ea_cons (ee_var rfl (by first | exact .inl rfl | exact .inr (.inl rfl) | exact .inr (.inr rfl)) d1_ages d2_ages) (ea_cons (ee_var rfl (by first | exact .inl rfl | exact .inr (.inl rfl) | exact .inr (.inr rfl)) d1_way d2_way) ea_nil rfl) rfl) rfl)) d1_led_by rfl rfl)) ee_int (fun _ _ => rfl)))))) (fun s0 H0 C0 cl0 fp0 => (ee_var rfl (by first | exact .inl rfl | exact .inr (.inl rfl) | exact .inr (.inr rfl)) d1_ages d2_ages)) (fun _ => rfl) (by decide)))) eab_nil rfl) (by decide +kernel) d1_len rfl rfl))
  sb_nil)))
theorem ok_kept_by_rule_2 {B : Bd} (g : G B) : Fn B "kept_by_rule" 7 2 sem_kept_by_rule [] := by
  obtain ⟨f, fd, h1, F⟩ := g.f_kept_by_rule
  have bT := F.bindsN (ps := ["house", "way"]) fun _ _ _ _ _ _ us hl => match us, hl with | [_, _], _ => rfl
  exact ⟨⟨f, fd, ["house", "way"], [], [], h1, F.kp, fn_ok F sc_kept_by_rule fun cdv A outer s H E hr => ss_kept_by_rule g hr, bT, .nil, fun _ _ => .nil⟩⟩
theorem kw_kept_by_rule_1 {B : Bd} (g : G B) : FnK B "kept_by_rule" 7 1 ["way"] sem_kept_by_rule := by
  obtain ⟨f, fd, h1, F⟩ := g.f_kept_by_rule
  exact ⟨⟨f, fd, ["house", "way"], fun us ws => us ++ ws, h1, F.kp, fn_ok F sc_kept_by_rule fun cdv A outer s H E hr => ss_kept_by_rule g hr, kbn_of F fun _ _ _ _ _ _ us ws h1 h2 => match us, ws, h1, h2 with | [_], [_], _, _ => rfl⟩⟩
theorem sc__law_well : FnScope ["script", "lap", "stirred", "cell", "own"] ["script", "lap"] (defScope (top 50)) := fsc_by (by decide +kernel)
theorem ss__law_well {B : Bd} (g : G B) {f : Addr} {cdv : Value} {A : Around} {outer : List Env} {s : Shared} {H : Hp} {E : XK} (hr : Room 0 (A.deeper (envOfC "_law_well" (defScope (top 50)) s.heap.objs.size f cdv))) :
    SB (cxOf (L2.CX B.P B.w) B.P B.w B.K B.mg B.base ["script", "lap", "stirred", "cell", "own"] "_law_well" (defScope (top 50)) f cdv A outer s H E) B.T (fun cls dd _ H => E cls dd H) (defBody (top 50)) m__law_well := by
  have tk : Takes (cxOf (L2.CX B.P B.w) B.P B.w B.K B.mg B.base ["script", "lap", "stirred", "cell", "own"] "_law_well" (defScope (top 50)) f cdv A outer s H E) (fun cls dd _ H => E cls dd H) := takes_of rfl rfl rfl rfl
  have hp : PassesOwn (model B.P B.w) (A.deeper (envOfC "_law_well" (defScope (top 50)) s.heap.objs.size f cdv)) (envOfC "_law_well" (defScope (top 50)) s.heap.objs.size f cdv) (cxOf (L2.CX B.P B.w) B.P B.w B.K B.mg B.base ["script", "lap", "stirred", "cell", "own"] "_law_well" (defScope (top 50)) f cdv A outer s H E).xe := passes_of rfl
  have hN : (["script", "lap", "stirred", "cell", "own"] : List Str).Nodup := sc__law_well.nd
  exact (sb_cons (ss_set hN rfl (by first | exact .inl rfl | exact .inr rfl) (ee_op2 op_addD ee_int (ee_op2 op_mulD ee_int (ee_var rfl (by first | exact .inl rfl | exact .inr (.inl rfl) | exact .inr (.inr rfl)) d1_lap d2_lap))) rfl (by first | exact .inl rfl | exact .inr rfl))
  (sb_cons (ss_for hp rfl (ie_val (ee_sl (ee_var rfl (by first | exact .inl rfl | exact .inr (.inl rfl) | exact .inr (.inr rfl)) d1_script d2_script) eo_none (eo_some ee_int))) (pg_name hN rfl (by first | exact .inl rfl | exact .inr rfl) (by first | exact .inl rfl | exact .inr rfl)) (sb_cons (ss_set hN rfl (by first | exact .inl rfl | exact .inr rfl) (ee_op2 op_modD (ee_callTy cd_int (by rfl) g.n_int (by decide +kernel) (eab_cons (EE.toB (ee_op2 op_addD (ee_op2 op_addD (ee_op2 op_mulD (ee_var rfl (by first | exact .inl rfl | exact .inr (.inl rfl) | exact .inr (.inr rfl)) d1_stirred d2_stirred) ee_int) (ee_op2 op_modD (ee_callTy cd_int (by rfl) g.n_int (by decide +kernel) (eab_cons (eb_var rfl (by first | exact .inl rfl | exact .inr (.inl rfl) | exact .inr (.inr rfl)) d1_cell d2_cell) eab_nil rfl) (by decide +kernel) d1_int rfl rfl) ee_int)) ee_int)) eab_nil rfl) (by decide +kernel) d1_int rfl rfl) ee_int) rfl (by first | exact .inl rfl | exact .inr rfl))
  sb_nil) (fun _ => rfl))
  (sb_cons (ss_set hN rfl (by first | exact .inl rfl | exact .inr rfl) (ee_if (et_cmp op_ltDD (eb_var rfl (by first | exact .inl rfl | exact .inr (.inl rfl) | exact .inr (.inr rfl)) d1_lap d2_lap) (EE.toB (ee_callB cd_len (by rfl) g.n_len (by decide +kernel) (eab_cons (eb_var rfl (by first | exact .inl rfl | exact .inr (.inl rfl) | exact .inr (.inr rfl)) d1_script d2_script) eab_nil rfl) (by decide +kernel) d1_len rfl rfl)) rfl) (ee_callTy cd_int (by rfl) g.n_int (by decide +kernel) (eab_cons (EE.toB (ee_ixS hr.u1 (eb_var rfl (by first | exact .inl rfl | exact .inr (.inl rfl) | exact .inr (.inr rfl)) d1_script d2_script) (ee_var rfl (by first | exact .inl rfl | exact .inr (.inl rfl) | exact .inr (.inr rfl)) d1_lap d2_lap) (fun _ _ => rfl))) eab_nil rfl) (by decide +kernel) d1_int rfl rfl) ee_int) rfl (by first | exact .inl rfl | exact .inr rfl))
  (sb_cons (ss_set hN rfl (by first | exact .inl rfl | exact .inr rfl) (ee_op2 op_modD (ee_callTy cd_int (by rfl) g.n_int (by decide +kernel) (eab_cons (EE.toB (ee_op2 op_addD (ee_op2 op_addD (ee_op2 op_mulD (ee_var rfl (by first | exact .inl rfl | exact .inr (.inl rfl) | exact .inr (.inr rfl)) d1_stirred d2_stirred) ee_int) (ee_op2 op_mulD (ee_op2 op_modD (ee_callTy cd_int (by rfl) g.n_int (by decide +kernel) (eab_cons (eb_var rfl (by first | exact .inl rfl | exact .inr (.inl rfl) | exact .inr (.inr rfl)) d1_own d2_own) eab_nil rfl) (by decide +kernel) d1_int rfl rfl) ee_int) ee_int)) ee_int)) eab_nil rfl) (by decide +kernel) d1_int rfl rfl) ee_int) rfl (by first | exact .inl rfl | exact .inr rfl))
  (sb_cons (ss_retO (eo_of (en_lst (ea_cons (ee_if (PW.pt (ew_or (et_cmp op_ltDD (eb_var rfl (by first | exact .inl rfl | exact .inr (.inl rfl) | exact .inr (.inr rfl)) d1_own d2_own) (EE.toB ee_int) rfl) (ew_or1 (et_cmp op_geDD (eb_var rfl (by first | exact .inl rfl | exact .inr (.inl rfl) | exact .inr (.inr rfl)) d1_own d2_own) (EE.toB (ee_op2 op_powD ee_int ee_int)) rfl)))) (ee_callB cd_abs (by rfl) g.n_abs (by decide +kernel) (eab_cons (eb_var rfl (by first | exact .inl rfl | exact .inr (.inl rfl) | exact .inr (.inr rfl)) d1_own d2_own) eab_nil rfl) (by decide +kernel) d1_abs rfl rfl) ee_int) (ea_cons (ee_var rfl (by first | exact .inl rfl | exact .inr (.inl rfl) | exact .inr (.inr rfl)) d1_stirred d2_stirred) (ea_cons ee_int ea_nil rfl) rfl) rfl))))
  sb_nil)))))
theorem ok__law_well_2 {B : Bd} (g : G B) : Fn B "_law_well" 1 2 sem__law_well [] := by
  obtain ⟨f, fd, h1, F⟩ := g.f__law_well
  have bT := F.bindsN (ps := ["script", "lap"]) fun _ _ _ _ _ _ us hl => match us, hl with | [_, _], _ => rfl
  exact ⟨⟨f, fd, ["script", "lap"], [], [], h1, F.kp, fn_ok F sc__law_well fun cdv A outer s H E hr => ss__law_well g hr, bT, .nil, fun _ _ => .nil⟩⟩
theorem sc__law_draw : FnScope ["well", "limit", "stir", "digit"] ["well", "limit"] (defScope (top 51)) := fsc_by (by decide +kernel)
theorem ss__law_draw {B : Bd} (g : G B) {f : Addr} {cdv : Value} {A : Around} {outer : List Env} {s : Shared} {H : Hp} {E : XK} (hr : Room 0 (A.deeper (envOfC "_law_draw" (defScope (top 51)) s.heap.objs.size f cdv))) :
    SB (cxOf (L2.CX B.P B.w) B.P B.w B.K B.mg B.base ["well", "limit", "stir", "digit"] "_law_draw" (defScope (top 51)) f cdv A outer s H E) B.T (fun cls dd _ H => E cls dd H) (defBody (top 51)) m__law_draw := by
  have tk : Takes (cxOf (L2.CX B.P B.w) B.P B.w B.K B.mg B.base ["well", "limit", "stir", "digit"] "_law_draw" (defScope (top 51)) f cdv A outer s H E) (fun cls dd _ H => E cls dd H) := takes_of rfl rfl rfl rfl
  have hp : PassesOwn (model B.P B.w) (A.deeper (envOfC "_law_draw" (defScope (top 51)) s.heap.objs.size f cdv)) (envOfC "_law_draw" (defScope (top 51)) s.heap.objs.size f cdv) (cxOf (L2.CX B.P B.w) B.P B.w B.K B.mg B.base ["well", "limit", "stir", "digit"] "_law_draw" (defScope (top 51)) f cdv A outer s H E).xe := passes_of rfl
  have hN : (["well", "limit", "stir", "digit"] : List Str).Nodup := sc__law_draw.nd
  exact (sb_cons (ss_if (et_cmp op_gtDD (EE.toB (ee_ixS hr.u1 (eb_var rfl (by first | exact .inl rfl | exact .inr (.inl rfl) | exact .inr (.inr rfl)) d1_well d2_well) ee_int (fun _ _ => rfl))) (EE.toB ee_int) rfl) (sb_cons (ss_putT rfl hr.u1 hN rfl (by first | exact .inl rfl | exact .inr (.inl rfl) | exact .inr (.inr rfl)) d1_well d2_well rfl (by first | exact .inl rfl | exact .inr rfl) (by first | exact .inl rfl | exact .inr rfl) (ee_callB cd_divmod (by rfl) g.n_divmod (by decide +kernel) (eab_cons (EE.toB (ee_ixS hr.u1 (eb_var rfl (by first | exact .inl rfl | exact .inr (.inl rfl) | exact .inr (.inr rfl)) d1_well d2_well) ee_int (fun _ _ => rfl))) (eab_cons (eb_var rfl (by first | exact .inl rfl | exact .inr (.inl rfl) | exact .inr (.inr rfl)) d1_limit d2_limit) eab_nil rfl) rfl) (by decide +kernel) d1_divmod rfl rfl) ee_int rfl rfl rfl (fun _ => rfl) (fun h => pg_tup rfl h) (fun h => pgs_cons h (pgs_cons (pg_name hN rfl (by first | exact .inl rfl | exact .inr rfl) (by first | exact .inl rfl | exact .inr rfl)) pgs_nil)))
  (sb_cons (ss_ret (ee_var rfl (by first | exact .inl rfl | exact .inr (.inl rfl) | exact .inr (.inr rfl)) d1_digit d2_digit))
  sb_nil)) sb_nil)
  (sb_cons (ss_put hr.u1 rfl (by first | exact .inl rfl | exact .inr (.inl rfl) | exact .inr (.inr rfl)) d1_well d2_well (ee_op2 op_addD (ee_ixS hr.u1 (eb_var rfl (by first | exact .inl rfl | exact .inr (.inl rfl) | exact .inr (.inr rfl)) d1_well d2_well) ee_int (fun _ _ => rfl)) ee_int) ee_int rfl rfl rfl (fun _ => rfl))
  (sb_cons (ss_set hN rfl (by first | exact .inl rfl | exact .inr rfl) (ee_op2 op_modD (ee_callTy cd_int (by rfl) g.n_int (by decide +kernel) (eab_cons (EE.toB (ee_op2 op_addD (ee_op2 op_addD (ee_op2 op_mulD (ee_ixS hr.u1 (eb_var rfl (by first | exact .inl rfl | exact .inr (.inl rfl) | exact .inr (.inr rfl)) d1_well d2_well) ee_int (fun _ _ => rfl)) ee_int) (ee_op2 op_mulD ee_int (ee_ixS hr.u1 (eb_var rfl (by first | exact .inl rfl | exact .inr (.inl rfl) | exact .inr (.inr rfl)) d1_well d2_well) ee_int (fun _ _ => rfl)))) ee_int)) eab_nil rfl) (by decide +kernel) d1_int rfl rfl) ee_int) rfl (by first | exact .inl rfl | exact .inr rfl))
  (sb_cons (ss_put hr.u1 rfl (by first | exact .inl rfl | exact .inr (.inl rfl) | exact .inr (.inr rfl)) d1_well d2_well (ee_op2 op_modD (ee_callTy cd_int (by rfl) g.n_int (by decide +kernel) (eab_cons (EE.toB (ee_op2 op_addD (ee_op2 op_mulD (ee_var rfl (by first | exact .inl rfl | exact .inr (.inl rfl) | exact .inr (.inr rfl)) d1_stir d2_stir) (ee_op2 op_addD (ee_op2 op_modD (ee_callTy cd_int (by rfl) g.n_int (by decide +kernel) (eab_cons (eb_var rfl (by first | exact .inl rfl | exact .inr (.inl rfl) | exact .inr (.inr rfl)) d1_stir d2_stir) eab_nil rfl) (by decide +kernel) d1_int rfl rfl) ee_int) ee_int)) (ee_ixS hr.u1 (eb_var rfl (by first | exact .inl rfl | exact .inr (.inl rfl) | exact .inr (.inr rfl)) d1_well d2_well) ee_int (fun _ _ => rfl)))) eab_nil rfl) (by decide +kernel) d1_int rfl rfl) ee_int) ee_int rfl rfl rfl (fun _ => rfl))
  (sb_cons (ss_ret (ee_op2 op_modD (ee_callTy cd_int (by rfl) g.n_int (by decide +kernel) (eab_cons (EE.toB (ee_op2 op_fdivD (ee_ixS hr.u1 (eb_var rfl (by first | exact .inl rfl | exact .inr (.inl rfl) | exact .inr (.inr rfl)) d1_well d2_well) ee_int (fun _ _ => rfl)) ee_int)) eab_nil rfl) (by decide +kernel) d1_int rfl rfl) (ee_var rfl (by first | exact .inl rfl | exact .inr (.inl rfl) | exact .inr (.inr rfl)) d1_limit d2_limit)))
  sb_nil)))))
theorem ok__law_draw_2 {B : Bd} (g : G B) : Fn B "_law_draw" 1 2 sem__law_draw [] := by
  obtain ⟨f, fd, h1, F⟩ := g.f__law_draw
  have bT := F.bindsN (ps := ["well", "limit"]) fun _ _ _ _ _ _ us hl => match us, hl with | [_, _], _ => rfl
  exact ⟨⟨f, fd, ["well", "limit"], [], [], h1, F.kp, fn_ok F sc__law_draw fun cdv A outer s H E hr => ss__law_draw g hr, bT, .nil, fun _ _ => .nil⟩⟩
theorem sc__law_of : FnScope ["well", "some"] ["well", "some"] (defScope (top 52)) := fsc_by (by decide +kernel)
theorem ss__law_of {B : Bd} (g : G B) {f : Addr} {cdv : Value} {A : Around} {outer : List Env} {s : Shared} {H : Hp} {E : XK} (hr : Room 1 (A.deeper (envOfC "_law_of" (defScope (top 52)) s.heap.objs.size f cdv))) :
    SB (cxOf (L2.CX B.P B.w) B.P B.w B.K B.mg B.base ["well", "some"] "_law_of" (defScope (top 52)) f cdv A outer s H E) B.T (fun cls dd _ H => E cls dd H) (defBody (top 52)) m__law_of := by
  have tk : Takes (cxOf (L2.CX B.P B.w) B.P B.w B.K B.mg B.base ["well", "some"] "_law_of" (defScope (top 52)) f cdv A outer s H E) (fun cls dd _ H => E cls dd H) := takes_of rfl rfl rfl rfl
  have hp : PassesOwn (model B.P B.w) (A.deeper (envOfC "_law_of" (defScope (top 52)) s.heap.objs.size f cdv)) (envOfC "_law_of" (defScope (top 52)) s.heap.objs.size f cdv) (cxOf (L2.CX B.P B.w) B.P B.w B.K B.mg B.base ["well", "some"] "_law_of" (defScope (top 52)) f cdv A outer s H E).xe := passes_of rfl
  have hN : (["well", "some"] : List Str).Nodup := sc__law_of.nd
  exact (sb_cons (ss_ret (ee_ixS hr.u1 (eb_var rfl (by first | exact .inl rfl | exact .inr (.inl rfl) | exact .inr (.inr rfl)) d1_some d2_some) (ee_fn (ok__law_draw_2 g) (hr.mono (by decide)) tk rfl rfl (ln_cons (ln_cons ln_nil)) (ex_of (ea_cons (ee_var rfl (by first | exact .inl rfl | exact .inr (.inl rfl) | exact .inr (.inr rfl)) d1_well d2_well) (ea_cons (ee_callB cd_len (by rfl) g.n_len (by decide +kernel) (eab_cons (eb_var rfl (by first | exact .inl rfl | exact .inr (.inl rfl) | exact .inr (.inr rfl)) d1_some d2_some) eab_nil rfl) (by decide +kernel) d1_len rfl rfl) ea_nil rfl) rfl)) d1__law_draw rfl rfl) (fun _ _ => rfl)))
  sb_nil)
theorem ok__law_of_2 {B : Bd} (g : G B) : Fn B "_law_of" 2 2 sem__law_of [] := by
  obtain ⟨f, fd, h1, F⟩ := g.f__law_of
  have bT := F.bindsN (ps := ["well", "some"]) fun _ _ _ _ _ _ us hl => match us, hl with | [_, _], _ => rfl
  exact ⟨⟨f, fd, ["well", "some"], [], [], h1, F.kp, fn_ok F sc__law_of fun cdv A outer s H E hr => ss__law_of g hr, bT, .nil, fun _ _ => .nil⟩⟩
theorem sc__law_same : FnScope ["one", "two", "k"] ["one", "two"] (defScope (top 53)) := fsc_by (by decide +kernel)
theorem ss__law_same {B : Bd} (g : G B) {self : FSem} {k : Nat} (hself : Fn B "_law_same" k 2 self []) {f : Addr} {cdv : Value} {A : Around} {outer : List Env} {s : Shared} {H : Hp} {E : XK} (hr : Room k (A.deeper (envOfC "_law_same" (defScope (top 53)) s.heap.objs.size f cdv))) :
    SB (cxOf (L2.CX B.P B.w) B.P B.w B.K B.mg B.base ["one", "two", "k"] "_law_same" (defScope (top 53)) f cdv A outer s H E) B.T (fun cls dd _ H => E cls dd H) (defBody (top 53)) (m__law_same self) := by
  have tk : Takes (cxOf (L2.CX B.P B.w) B.P B.w B.K B.mg B.base ["one", "two", "k"] "_law_same" (defScope (top 53)) f cdv A outer s H E) (fun cls dd _ H => E cls dd H) := takes_of rfl rfl rfl rfl
  have hp : PassesOwn (model B.P B.w) (A.deeper (envOfC "_law_same" (defScope (top 53)) s.heap.objs.size f cdv)) (envOfC "_law_same" (defScope (top 53)) s.heap.objs.size f cdv) (cxOf (L2.CX B.P B.w) B.P B.w B.K B.mg B.base ["one", "two", "k"] "_law_same" (defScope (top 53)) f cdv A outer s H E).xe := passes_of rfl
  have hN : (["one", "two", "k"] : List Str).Nodup := sc__law_same.nd
  exact (sb_cons (ss_if (PW.pt (ew_and (et_truth (EE.toB (ee_isi (t := .tuple) rfl rfl rfl g.n_isinstance rfl g.n_tuple (eb_var rfl (by first | exact .inl rfl | exact .inr (.inl rfl) | exact .inr (.inr rfl)) d1_one d2_one) rfl)) (fun _ => rfl)) (ew_and1 (et_truth (EE.toB (ee_isi (t := .tuple) rfl rfl rfl g.n_isinstance rfl g.n_tuple (eb_var rfl (by first | exact .inl rfl | exact .inr (.inl rfl) | exact .inr (.inr rfl)) d1_two d2_two) rfl)) (fun _ => rfl))))) (sb_cons (ss_ret (ee_and (ee_cmp (op_eqDD hr.units) (EE.toB (ee_callB cd_len (by rfl) g.n_len (by decide +kernel) (eab_cons (eb_var rfl (by first | exact .inl rfl | exact .inr (.inl rfl) | exact .inr (.inr rfl)) d1_one d2_one) eab_nil rfl) (by decide +kernel) d1_len rfl rfl)) (EE.toB (ee_callB cd_len (by rfl) g.n_len (by decide +kernel) (eab_cons (eb_var rfl (by first | exact .inl rfl | exact .inr (.inl rfl) | exact .inr (.inr rfl)) d1_two d2_two) eab_nil rfl) (by decide +kernel) d1_len rfl rfl)) rfl) (ee_one (ee_callB (cd_all rfl) (by rfl) g.n_all (by decide +kernel) (eab_cons (EE.toB (en_ee (ee_comp rfl hN (ie_range1 (by rfl) g.n_range (ee_callB cd_len (by rfl) g.n_len (by decide +kernel) (eab_cons (eb_var rfl (by first | exact .inl rfl | exact .inr (.inl rfl) | exact .inr (.inr rfl)) d1_one d2_one) eab_nil rfl) (by decide +kernel) d1_len rfl rfl) rfl) (blk_by (own := [("k", 2)]) (by kernel_rfl)) (fun s0 H0 C0 cl0 fp0 => (pg_name hN rfl (by first | exact .inl rfl | exact .inr rfl) (by first | exact .inl rfl | exact .inr rfl))) (fun s0 H0 C0 cl0 fp0 => pts0) (fun s0 H0 C0 cl0 fp0 => (ee_fn hself (hr.mono (Nat.le_refl _)) tk_blk rfl rfl (ln_cons (ln_cons ln_nil)) (ex_of (ea_cons (ee_ixS hr.u1 (eb_var rfl (by first | exact .inl rfl | exact .inr (.inl rfl) | exact .inr (.inr rfl)) d1_one d2_one) (ee_var rfl (by first | exact .inl rfl | exact .inr (.inl rfl) | exact .inr (.inr rfl)) d1_k d2_k) (fun _ _ => rfl)) (ea_cons (ee_ixS hr.u1 (eb_var rfl (by first | exact .inl rfl | exact .inr (.inl rfl) | exact .inr (.inr rfl)) d1_two d2_two) (ee_var rfl (by first | exact .inl rfl | exact .inr (.inl rfl) | exact .inr (.inr rfl)) d1_k d2_k) (fun _ _ => rfl)) ea_nil rfl) rfl)) d1__law_same rfl rfl)) (fun _ => rfl) (by decide)))) eab_nil rfl) (by decide +kernel) d1_all rfl rfl))))
  sb_nil) sb_nil)
  (sb_cons (ss_if (PW.pt (ew_or (et_cmp (op_neDD hr.units) (EE.toB (ee_isi (t := .bool) rfl rfl rfl g.n_isinstance rfl g.n_bool (eb_var rfl (by first | exact .inl rfl | exact .inr (.inl rfl) | exact .inr (.inr rfl)) d1_one d2_one) rfl)) (EE.toB (ee_isi (t := .bool) rfl rfl rfl g.n_isinstance rfl g.n_bool (eb_var rfl (by first | exact .inl rfl | exact .inr (.inl rfl) | exact .inr (.inr rfl)) d1_two d2_two) rfl)) rfl) (ew_or1 (et_cmp (op_neDD hr.units) (EE.toB (ee_isi (t := .int) rfl rfl rfl g.n_isinstance rfl g.n_int (eb_var rfl (by first | exact .inl rfl | exact .inr (.inl rfl) | exact .inr (.inr rfl)) d1_one d2_one) rfl)) (EE.toB (ee_isi (t := .int) rfl rfl rfl g.n_isinstance rfl g.n_int (eb_var rfl (by first | exact .inl rfl | exact .inr (.inl rfl) | exact .inr (.inr rfl)) d1_two d2_two) rfl)) rfl)))) (sb_cons (ss_ret ee_bl)
  sb_nil) sb_nil)
  (sb_cons (ss_ret (ee_and (ee_cmp (op_eqDD hr.units) (EE.toB (ee_isi (t := .tuple) rfl rfl rfl g.n_isinstance rfl g.n_tuple (eb_var rfl (by first | exact .inl rfl | exact .inr (.inl rfl) | exact .inr (.inr rfl)) d1_one d2_one) rfl)) (EE.toB (ee_isi (t := .tuple) rfl rfl rfl g.n_isinstance rfl g.n_tuple (eb_var rfl (by first | exact .inl rfl | exact .inr (.inl rfl) | exact .inr (.inr rfl)) d1_two d2_two) rfl)) rfl) (ee_one (ee_cmp (op_eqDD hr.units) (eb_var rfl (by first | exact .inl rfl | exact .inr (.inl rfl) | exact .inr (.inr rfl)) d1_one d2_one) (eb_var rfl (by first | exact .inl rfl | exact .inr (.inl rfl) | exact .inr (.inr rfl)) d1_two d2_two) rfl))))
  sb_nil)))
theorem okN__law_same {B : Bd} (g : G B) : ∀ n, Fn B "_law_same" (n + 1) 2 (semN__law_same n) []
  | 0 => by
    obtain ⟨f, fd, h1, F⟩ := g.f__law_same
    have bT := F.bindsN (ps := ["one", "two"]) fun _ _ _ _ _ _ us hl => match us, hl with | [_, _], _ => rfl
    exact ⟨⟨f, fd, ["one", "two"], [], [], h1, F.kp, fnOk_none, bT, .nil, fun _ _ => .nil⟩⟩
  | n + 1 => by
    obtain ⟨f, fd, h1, F⟩ := g.f__law_same
    have bT := F.bindsN (ps := ["one", "two"]) fun _ _ _ _ _ _ us hl => match us, hl with | [_, _], _ => rfl
    have q := fn_ok (k := n + 1) F sc__law_same fun cdv A outer s H E hr => ss__law_same g (okN__law_same g n) hr
    have e : n + 1 + 1 = n + 1 + 1 := by omega
    rw [e]
    exact ⟨⟨f, fd, ["one", "two"], [], [], h1, F.kp, q, bT, .nil, fun _ _ => .nil⟩⟩
theorem ok__law_same_2 {B : Bd} (g : G B) : Fn B "_law_same" 7 2 sem__law_same [] := okN__law_same g 6
theorem sc__law_names : FnScope ["well", "many", "found", "letters", "words", "k", "name", "lap"] ["well", "many"] (defScope (top 54)) := fsc_by (by decide +kernel)
theorem ss__law_names {B : Bd} (g : G B) {f : Addr} {cdv : Value} {A : Around} {outer : List Env} {s : Shared} {H : Hp} {E : XK} (hr : Room 2 (A.deeper (envOfC "_law_names" (defScope (top 54)) s.heap.objs.size f cdv))) :
    SB (cxOf (L2.CX B.P B.w) B.P B.w B.K B.mg B.base ["well", "many", "found", "letters", "words", "k", "name", "lap"] "_law_names" (defScope (top 54)) f cdv A outer s H E) B.T (fun cls dd _ H => E cls dd H) (defBody (top 54)) m__law_names := by
  have tk : Takes (cxOf (L2.CX B.P B.w) B.P B.w B.K B.mg B.base ["well", "many", "found", "letters", "words", "k", "name", "lap"] "_law_names" (defScope (top 54)) f cdv A outer s H E) (fun cls dd _ H => E cls dd H) := takes_of rfl rfl rfl rfl
  have hp : PassesOwn (model B.P B.w) (A.deeper (envOfC "_law_names" (defScope (top 54)) s.heap.objs.size f cdv)) (envOfC "_law_names" (defScope (top 54)) s.heap.objs.size f cdv) (cxOf (L2.CX B.P B.w) B.P B.w B.K B.mg B.base ["well", "many", "found", "letters", "words", "k", "name", "lap"] "_law_names" (defScope (top 54)) f cdv A outer s H E).xe := passes_of rfl
  have hN : (["well", "many", "found", "letters", "words", "k", "name", "lap"] : List Str).Nodup := sc__law_names.nd
  exact (sb_cons (ss_par2 rfl hN rfl rfl (by decide) rfl rfl (es_own (eo_of (en_lst ea_nil)) (es_val (ee_str (okS_lit (by decide +kernel))) es_nil rfl) rfl) rfl rfl)
  (sb_cons (ss_set hN rfl (by first | exact .inl rfl | exact .inr rfl) (ee_str (okS_lit (by decide +kernel))) rfl (by first | exact .inl rfl | exact .inr rfl))
  (sb_cons (ss_set hN rfl (by first | exact .inl rfl | exact .inr rfl) (ee_op2 op_addD (ee_mtS PySem.F.slot_str_split rfl mt_splitD (ee_var rfl (by first | exact .inl rfl | exact .inr (.inl rfl) | exact .inr (.inr rfl)) d1_words d2_words) (ea_cons (ee_str (okS_lit (by decide +kernel))) ea_nil rfl) rfl rfl rfl rfl rfl) (ee_mtS PySem.F.slot_str_split rfl mt_splitD (ee_str (okS_lit (by decide +kernel))) (ea_cons (ee_str (okS_lit (by decide +kernel))) ea_nil rfl) rfl rfl rfl rfl rfl)) rfl (by first | exact .inl rfl | exact .inr rfl))
  (sb_cons (ss_for hp rfl (ie_range1 (by rfl) g.n_range (ee_var rfl (by first | exact .inl rfl | exact .inr (.inl rfl) | exact .inr (.inr rfl)) d1_many d2_many) rfl) (pg_name hN rfl (by first | exact .inl rfl | exact .inr rfl) (by first | exact .inl rfl | exact .inr rfl)) (sb_cons (ss_set hN rfl (by first | exact .inl rfl | exact .inr rfl) (ee_str (okS_lit (by decide +kernel))) rfl (by first | exact .inl rfl | exact .inr rfl))
  (sb_cons (ss_for hp rfl (ie_range1 (by rfl) g.n_range (ee_fn (ok__law_of_2 g) (hr.mono (by decide)) tk rfl rfl (ln_cons (ln_cons ln_nil)) (ex_of (ea_cons (ee_var rfl (by first | exact .inl rfl | exact .inr (.inl rfl) | exact .inr (.inr rfl)) d1_well d2_well) (ea_cons (ee_tup (ea_cons ee_int (ea_cons ee_int (ea_cons ee_int (ea_cons ee_int (ea_cons ee_int ea_nil rfl) rfl) rfl) rfl) rfl)) ea_nil rfl) rfl)) d1__law_of rfl rfl) rfl) (pg_name hN rfl (by first | exact .inl rfl | exact .inr rfl) (by first | exact .inl rfl | exact .inr rfl)) (sb_cons (ss_set hN rfl (by first | exact .inl rfl | exact .inr rfl) (ee_op2 op_addD (ee_var rfl (by first | exact .inl rfl | exact .inr (.inl rfl) | exact .inr (.inr rfl)) d1_name d2_name) (ee_fn (ok__law_of_2 g) (hr.mono (by decide)) tk rfl rfl (ln_cons (ln_cons ln_nil)) (ex_of (ea_cons (ee_var rfl (by first | exact .inl rfl | exact .inr (.inl rfl) | exact .inr (.inr rfl)) d1_well d2_well) (ea_cons (ee_var rfl (by first | exact .inl rfl | exact .inr (.inl rfl) | exact .inr (.inr rfl)) d1_letters d2_letters) ea_nil rfl) rfl)) d1__law_of rfl rfl)) rfl (by first | exact .inl rfl | exact .inr rfl))
  sb_nil) (fun _ => rfl))
  (sb_cons (ss_set hN rfl (by first | exact .inl rfl | exact .inr rfl) (ee_op2 op_addD (ee_var rfl (by first | exact .inl rfl | exact .inr (.inl rfl) | exact .inr (.inr rfl)) d1_name d2_name) (ee_ixS hr.u1 (eb_var rfl (by first | exact .inl rfl | exact .inr (.inl rfl) | exact .inr (.inr rfl)) d1_letters d2_letters) (ee_var rfl (by first | exact .inl rfl | exact .inr (.inl rfl) | exact .inr (.inr rfl)) d1_k d2_k) (fun _ _ => rfl))) rfl (by first | exact .inl rfl | exact .inr rfl))
  (sb_cons (ss_app rfl (by first | exact .inl rfl | exact .inr (.inl rfl) | exact .inr (.inr rfl)) d1_found d2_found (ee_if (et_mem (op_mem hr.u65 false) (ee_var rfl (by first | exact .inl rfl | exact .inr (.inl rfl) | exact .inr (.inr rfl)) d1_name d2_name) (eb_var rfl (by first | exact .inl rfl | exact .inr (.inl rfl) | exact .inr (.inr rfl)) d1_words d2_words) rfl) (ee_op2 op_addD (ee_str (okS_lit (by decide +kernel))) (ee_ixS hr.u1 (eb_var rfl (by first | exact .inl rfl | exact .inr (.inl rfl) | exact .inr (.inr rfl)) d1_letters d2_letters) (ee_var rfl (by first | exact .inl rfl | exact .inr (.inl rfl) | exact .inr (.inr rfl)) d1_k d2_k) (fun _ _ => rfl))) (ee_var rfl (by first | exact .inl rfl | exact .inr (.inl rfl) | exact .inr (.inr rfl)) d1_name d2_name)) rfl rfl rfl rfl rfl rfl)
  sb_nil)))) (fun _ => rfl))
  (sb_cons (ss_ret (ee_callTy cd_tuple (by rfl) g.n_tuple (by decide +kernel) (eab_cons (EE.toB (ee_callB cd_sorted (by rfl) g.n_sorted (by decide +kernel) (eab_cons (eb_var rfl (by first | exact .inl rfl | exact .inr (.inl rfl) | exact .inr (.inr rfl)) d1_found d2_found) eab_nil rfl) (by decide +kernel) d1_sorted rfl rfl)) eab_nil rfl) (by decide +kernel) d1_tuple rfl rfl))
  sb_nil)))))
theorem ok__law_names_2 {B : Bd} (g : G B) : Fn B "_law_names" 3 2 sem__law_names [] := by
  obtain ⟨f, fd, h1, F⟩ := g.f__law_names
  have bT := F.bindsN (ps := ["well", "many"]) fun _ _ _ _ _ _ us hl => match us, hl with | [_, _], _ => rfl
  exact ⟨⟨f, fd, ["well", "many"], [], [], h1, F.kp, fn_ok F sc__law_names fun cdv A outer s H E hr => ss__law_names g hr, bT, .nil, fun _ _ => .nil⟩⟩
theorem sc__law_house : FnScope ["well", "most", "room", "limits", "found", "whole", "limit", "names", "k", "lap"] ["well", "most", "room"] (defScope (top 55)) := fsc_by (by decide +kernel)
theorem ss__law_house {B : Bd} (g : G B) {f : Addr} {cdv : Value} {A : Around} {outer : List Env} {s : Shared} {H : Hp} {E : XK} (hr : Room 3 (A.deeper (envOfC "_law_house" (defScope (top 55)) s.heap.objs.size f cdv))) :
    SB (cxOf (L2.CX B.P B.w) B.P B.w B.K B.mg B.base ["well", "most", "room", "limits", "found", "whole", "limit", "names", "k", "lap"] "_law_house" (defScope (top 55)) f cdv A outer s H E) B.T (fun cls dd _ H => E cls dd H) (defBody (top 55)) m__law_house := by
  have tk : Takes (cxOf (L2.CX B.P B.w) B.P B.w B.K B.mg B.base ["well", "most", "room", "limits", "found", "whole", "limit", "names", "k", "lap"] "_law_house" (defScope (top 55)) f cdv A outer s H E) (fun cls dd _ H => E cls dd H) := takes_of rfl rfl rfl rfl
  have hp : PassesOwn (model B.P B.w) (A.deeper (envOfC "_law_house" (defScope (top 55)) s.heap.objs.size f cdv)) (envOfC "_law_house" (defScope (top 55)) s.heap.objs.size f cdv) (cxOf (L2.CX B.P B.w) B.P B.w B.K B.mg B.base ["well", "most", "room", "limits", "found", "whole", "limit", "names", "k", "lap"] "_law_house" (defScope (top 55)) f cdv A outer s H E).xe := passes_of rfl
  have hN : (["well", "most", "room", "limits", "found", "whole", "limit", "names", "k", "lap"] : List Str).Nodup := sc__law_house.nd
  exact (sb_cons (ss_set hN rfl (by first | exact .inl rfl | exact .inr rfl) (ee_fn (ok__law_of_2 g) (hr.mono (by decide)) tk rfl rfl (ln_cons (ln_cons ln_nil)) (ex_of (ea_cons (ee_var rfl (by first | exact .inl rfl | exact .inr (.inl rfl) | exact .inr (.inr rfl)) d1_well d2_well) (ea_cons (ee_tup (ea_cons (ee_tup (ea_cons ee_int (ea_cons ee_int (ea_cons ee_int ea_nil rfl) rfl) rfl)) (ea_cons (ee_tup (ea_cons ee_int (ea_cons ee_int ea_nil rfl) rfl)) (ea_cons (ee_tup (ea_cons ee_int (ea_cons ee_int (ea_cons ee_int ea_nil rfl) rfl) rfl)) (ea_cons (ee_tup (ea_cons ee_int (ea_cons ee_int (ea_cons ee_int ea_nil rfl) rfl) rfl)) (ea_cons (ee_tup (ea_cons ee_int (ea_cons ee_int ea_nil rfl) rfl)) (ea_cons (ee_tup (ea_cons ee_int (ea_cons ee_int ea_nil rfl) rfl)) (ea_cons (ee_tup (ea_cons ee_int (ea_cons ee_int (ea_cons ee_int ea_nil rfl) rfl) rfl)) (ea_cons (ee_tup (ea_cons ee_int ea_nil rfl)) (ea_cons (ee_tup (ea_cons ee_int (ea_cons ee_int (ea_cons ee_int ea_nil rfl) rfl) rfl)) ea_nil rfl) rfl) rfl) rfl) rfl) rfl) rfl) rfl) rfl)) ea_nil rfl) rfl)) d1__law_of rfl rfl) rfl (by first | exact .inl rfl | exact .inr rfl))
  (sb_cons (ss_if (et_cmp (op_eqDD hr.units) (EE.toB (ee_fn (ok__law_draw_2 g) (hr.mono (by decide)) tk rfl rfl (ln_cons (ln_cons ln_nil)) (ex_of (ea_cons (ee_var rfl (by first | exact .inl rfl | exact .inr (.inl rfl) | exact .inr (.inr rfl)) d1_well d2_well) (ea_cons ee_int ea_nil rfl) rfl)) d1__law_draw rfl rfl)) (EE.toB ee_int) rfl) (sb_cons (ss_set hN rfl (by first | exact .inl rfl | exact .inr rfl) (ee_callTy cd_tuple (by rfl) g.n_tuple (by decide +kernel) (eab_cons (EE.toB (en_ee (ee_comp rfl hN (ie_range1 (by rfl) g.n_range (ee_op2 op_addD ee_int (ee_fn (ok__law_draw_2 g) (hr.mono (by decide)) tk rfl rfl (ln_cons (ln_cons ln_nil)) (ex_of (ea_cons (ee_var rfl (by first | exact .inl rfl | exact .inr (.inl rfl) | exact .inr (.inr rfl)) d1_well d2_well) (ea_cons (ee_var rfl (by first | exact .inl rfl | exact .inr (.inl rfl) | exact .inr (.inr rfl)) d1_most d2_most) ea_nil rfl) rfl)) d1__law_draw rfl rfl)) rfl) (blk_by (own := [("lap", 9)]) (by kernel_rfl)) (fun s0 H0 C0 cl0 fp0 => (pg_name hN rfl (by first | exact .inl rfl | exact .inr rfl) (by first | exact .inl rfl | exact .inr rfl))) (fun s0 H0 C0 cl0 fp0 => pts0) (fun s0 H0 C0 cl0 fp0 => (ee_op2 op_addD ee_int (ee_fn (ok__law_draw_2 g) (hr.mono (by decide)) tk_blk rfl rfl (ln_cons (ln_cons ln_nil)) (ex_of (ea_cons (ee_var rfl (by first | exact .inl rfl | exact .inr (.inl rfl) | exact .inr (.inr rfl)) d1_well d2_well) (ea_cons ee_int ea_nil rfl) rfl)) d1__law_draw rfl rfl))) (fun _ => rfl) (by decide)))) eab_nil rfl) (by decide +kernel) d1_tuple rfl rfl) rfl (by first | exact .inl rfl | exact .inr rfl))
  sb_nil) sb_nil)
  (sb_cons (ss_setT (ee_tup (ea_cons (ee_lst ea_nil) (ea_cons ee_int ea_nil rfl) rfl)) (pg_tup rfl (pgs_cons (pg_name hN rfl (by first | exact .inl rfl | exact .inr rfl) (by first | exact .inl rfl | exact .inr rfl)) (pgs_cons (pg_name hN rfl (by first | exact .inl rfl | exact .inr rfl) (by first | exact .inl rfl | exact .inr rfl)) pgs_nil))) rfl rfl rfl)
  (sb_cons (ss_for hp rfl (ie_val (ee_sl (ee_var rfl (by first | exact .inl rfl | exact .inr (.inl rfl) | exact .inr (.inr rfl)) d1_limits d2_limits) eo_none (eo_some (ee_var rfl (by first | exact .inl rfl | exact .inr (.inl rfl) | exact .inr (.inr rfl)) d1_most d2_most)))) (pg_name hN rfl (by first | exact .inl rfl | exact .inr rfl) (by first | exact .inl rfl | exact .inr rfl)) (sb_cons (ss_if (et_cmp op_leDD (EE.toB (ee_op2 op_mulD (ee_var rfl (by first | exact .inl rfl | exact .inr (.inl rfl) | exact .inr (.inr rfl)) d1_whole d2_whole) (ee_var rfl (by first | exact .inl rfl | exact .inr (.inl rfl) | exact .inr (.inr rfl)) d1_limit d2_limit))) (eb_var rfl (by first | exact .inl rfl | exact .inr (.inl rfl) | exact .inr (.inr rfl)) d1_room d2_room) rfl) (sb_cons (ss_setT (ee_tup (ea_cons (ee_op2 op_addD (ee_var rfl (by first | exact .inl rfl | exact .inr (.inl rfl) | exact .inr (.inr rfl)) d1_found d2_found) (ee_lst (ea_cons (ee_var rfl (by first | exact .inl rfl | exact .inr (.inl rfl) | exact .inr (.inr rfl)) d1_limit d2_limit) ea_nil rfl))) (ea_cons (ee_op2 op_mulD (ee_var rfl (by first | exact .inl rfl | exact .inr (.inl rfl) | exact .inr (.inr rfl)) d1_whole d2_whole) (ee_var rfl (by first | exact .inl rfl | exact .inr (.inl rfl) | exact .inr (.inr rfl)) d1_limit d2_limit)) ea_nil rfl) rfl)) (pg_tup rfl (pgs_cons (pg_name hN rfl (by first | exact .inl rfl | exact .inr rfl) (by first | exact .inl rfl | exact .inr rfl)) (pgs_cons (pg_name hN rfl (by first | exact .inl rfl | exact .inr rfl) (by first | exact .inl rfl | exact .inr rfl)) pgs_nil))) rfl rfl rfl)
  sb_nil) sb_nil)
  sb_nil) (fun _ => rfl))
  (sb_cons (ss_set hN rfl (by first | exact .inl rfl | exact .inr rfl) (ee_fn (ok__law_names_2 g) (hr.mono (by decide)) tk rfl rfl (ln_cons (ln_cons ln_nil)) (ex_of (ea_cons (ee_var rfl (by first | exact .inl rfl | exact .inr (.inl rfl) | exact .inr (.inr rfl)) d1_well d2_well) (ea_cons (ee_callB cd_len (by rfl) g.n_len (by decide +kernel) (eab_cons (eb_var rfl (by first | exact .inl rfl | exact .inr (.inl rfl) | exact .inr (.inr rfl)) d1_found d2_found) eab_nil rfl) (by decide +kernel) d1_len rfl rfl) ea_nil rfl) rfl)) d1__law_names rfl rfl) rfl (by first | exact .inl rfl | exact .inr rfl))
  (sb_cons (ss_ret (ee_callTy cd_tuple (by rfl) g.n_tuple (by decide +kernel) (eab_cons (EE.toB (en_ee (ee_comp rfl hN (ie_range1 (by rfl) g.n_range (ee_callB cd_len (by rfl) g.n_len (by decide +kernel) (eab_cons (eb_var rfl (by first | exact .inl rfl | exact .inr (.inl rfl) | exact .inr (.inr rfl)) d1_found d2_found) eab_nil rfl) (by decide +kernel) d1_len rfl rfl) rfl) (blk_by (own := [("k", 8)]) (by kernel_rfl)) (fun s0 H0 C0 cl0 fp0 => (pg_name hN rfl (by first | exact .inl rfl | exact .inr rfl) (by first | exact .inl rfl | exact .inr rfl))) (fun s0 H0 C0 cl0 fp0 => pts0) (fun s0 H0 C0 cl0 fp0 => (ee_tup (ea_cons (ee_ixS hr.u1 (eb_var rfl (by first | exact .inl rfl | exact .inr (.inl rfl) | exact .inr (.inr rfl)) d1_names d2_names) (ee_var rfl (by first | exact .inl rfl | exact .inr (.inl rfl) | exact .inr (.inr rfl)) d1_k d2_k) (fun _ _ => rfl)) (ea_cons (ee_ixS hr.u1 (eb_var rfl (by first | exact .inl rfl | exact .inr (.inl rfl) | exact .inr (.inr rfl)) d1_found d2_found) (ee_var rfl (by first | exact .inl rfl | exact .inr (.inl rfl) | exact .inr (.inr rfl)) d1_k d2_k) (fun _ _ => rfl)) ea_nil rfl) rfl))) (fun _ => rfl) (by decide)))) eab_nil rfl) (by decide +kernel) d1_tuple rfl rfl))
  sb_nil))))))
theorem ok__law_house_3 {B : Bd} (g : G B) : Fn B "_law_house" 4 3 sem__law_house [] := by
  obtain ⟨f, fd, h1, F⟩ := g.f__law_house
  have bT := F.bindsN (ps := ["well", "most", "room"]) fun _ _ _ _ _ _ us hl => match us, hl with | [_, _, _], _ => rfl
  exact ⟨⟨f, fd, ["well", "most", "room"], [], [], h1, F.kp, fn_ok F sc__law_house fun cdv A outer s H E hr => ss__law_house g hr, bT, .nil, fun _ _ => .nil⟩⟩
theorem sc__law_places : FnScope ["house", "row"] ["house"] (defScope (top 56)) := fsc_by (by decide +kernel)
theorem ss__law_places {B : Bd} (g : G B) {f : Addr} {cdv : Value} {A : Around} {outer : List Env} {s : Shared} {H : Hp} {E : XK} (hr : Room 0 (A.deeper (envOfC "_law_places" (defScope (top 56)) s.heap.objs.size f cdv))) :
    SB (cxOf (L2.CX B.P B.w) B.P B.w B.K B.mg B.base ["house", "row"] "_law_places" (defScope (top 56)) f cdv A outer s H E) B.T (fun cls dd _ H => E cls dd H) (defBody (top 56)) m__law_places := by
  have tk : Takes (cxOf (L2.CX B.P B.w) B.P B.w B.K B.mg B.base ["house", "row"] "_law_places" (defScope (top 56)) f cdv A outer s H E) (fun cls dd _ H => E cls dd H) := takes_of rfl rfl rfl rfl
  have hp : PassesOwn (model B.P B.w) (A.deeper (envOfC "_law_places" (defScope (top 56)) s.heap.objs.size f cdv)) (envOfC "_law_places" (defScope (top 56)) s.heap.objs.size f cdv) (cxOf (L2.CX B.P B.w) B.P B.w B.K B.mg B.base ["house", "row"] "_law_places" (defScope (top 56)) f cdv A outer s H E).xe := passes_of rfl
  have hN : (["house", "row"] : List Str).Nodup := sc__law_places.nd
  exact (sb_cons (ss_ret (ee_callTy cd_tuple (by rfl) g.n_tuple (by decide +kernel) (eab_cons (EE.toB (en_ee (ee_comp rfl hN (ie_val (ee_var rfl (by first | exact .inl rfl | exact .inr (.inl rfl) | exact .inr (.inr rfl)) d1_house d2_house)) (blk_by (own := [("row", 1)]) (by kernel_rfl)) (fun s0 H0 C0 cl0 fp0 => (pg_name hN rfl (by first | exact .inl rfl | exact .inr rfl) (by first | exact .inl rfl | exact .inr rfl))) (fun s0 H0 C0 cl0 fp0 => pts0) (fun s0 H0 C0 cl0 fp0 => (ee_ixS hr.u1 (eb_var rfl (by first | exact .inl rfl | exact .inr (.inl rfl) | exact .inr (.inr rfl)) d1_row d2_row) ee_int (fun _ _ => rfl))) (fun _ => rfl) (by decide)))) eab_nil rfl) (by decide +kernel) d1_tuple rfl rfl))
  sb_nil)
theorem ok__law_places_1 {B : Bd} (g : G B) : Fn B "_law_places" 1 1 sem__law_places [] := by
  obtain ⟨f, fd, h1, F⟩ := g.f__law_places
  have bT := F.bindsN (ps := ["house"]) fun _ _ _ _ _ _ us hl => match us, hl with | [_], _ => rfl
  exact ⟨⟨f, fd, ["house"], [], [], h1, F.kp, fn_ok F sc__law_places fun cdv A outer s H E hr => ss__law_places g hr, bT, .nil, fun _ _ => .nil⟩⟩
theorem sc__law_looks : FnScope ["house"] ["house"] (defScope (top 57)) := fsc_by (by decide +kernel)
theorem ss__law_looks {B : Bd} (g : G B) {f : Addr} {cdv : Value} {A : Around} {outer : List Env} {s : Shared} {H : Hp} {E : XK} (hr : Room 1 (A.deeper (envOfC "_law_looks" (defScope (top 57)) s.heap.objs.size f cdv))) :
    SB (cxOf (L2.CX B.P B.w) B.P B.w B.K B.mg B.base ["house"] "_law_looks" (defScope (top 57)) f cdv A outer s H E) B.T (fun cls dd _ H => E cls dd H) (defBody (top 57)) m__law_looks := by
  have tk : Takes (cxOf (L2.CX B.P B.w) B.P B.w B.K B.mg B.base ["house"] "_law_looks" (defScope (top 57)) f cdv A outer s H E) (fun cls dd _ H => E cls dd H) := takes_of rfl rfl rfl rfl
  have hp : PassesOwn (model B.P B.w) (A.deeper (envOfC "_law_looks" (defScope (top 57)) s.heap.objs.size f cdv)) (envOfC "_law_looks" (defScope (top 57)) s.heap.objs.size f cdv) (cxOf (L2.CX B.P B.w) B.P B.w B.K B.mg B.base ["house"] "_law_looks" (defScope (top 57)) f cdv A outer s H E).xe := passes_of rfl
  have hN : (["house"] : List Str).Nodup := sc__law_looks.nd
  exact (sb_cons (ss_ret (ee_op2 op_addD (ee_tup (ea_cons (ee_str (okS_lit (by decide +kernel))) ea_nil rfl)) (ee_fn (ok__law_places_1 g) (hr.mono (by decide)) tk rfl rfl (ln_cons ln_nil) (ex_of (ea_cons (ee_var rfl (by first | exact .inl rfl | exact .inr (.inl rfl) | exact .inr (.inr rfl)) d1_house d2_house) ea_nil rfl)) d1__law_places rfl rfl)))
  sb_nil)
theorem ok__law_looks_1 {B : Bd} (g : G B) : Fn B "_law_looks" 2 1 sem__law_looks [] := by
  obtain ⟨f, fd, h1, F⟩ := g.f__law_looks
  have bT := F.bindsN (ps := ["house"]) fun _ _ _ _ _ _ us hl => match us, hl with | [_], _ => rfl
  exact ⟨⟨f, fd, ["house"], [], [], h1, F.kp, fn_ok F sc__law_looks fun cdv A outer s H E hr => ss__law_looks g hr, bT, .nil, fun _ _ => .nil⟩⟩
theorem sc__law_all_ages : FnScope ["house", "found", "place", "limit", "more", "row", "age"] ["house"] (defScope (top 58)) := fsc_by (by decide +kernel)
theorem ss__law_all_ages {B : Bd} (g : G B) {f : Addr} {cdv : Value} {A : Around} {outer : List Env} {s : Shared} {H : Hp} {E : XK} (hr : Room 0 (A.deeper (envOfC "_law_all_ages" (defScope (top 58)) s.heap.objs.size f cdv))) :
    SB (cxOf (L2.CX B.P B.w) B.P B.w B.K B.mg B.base ["house", "found", "place", "limit", "more", "row", "age"] "_law_all_ages" (defScope (top 58)) f cdv A outer s H E) B.T (fun cls dd _ H => E cls dd H) (defBody (top 58)) m__law_all_ages := by
  have tk : Takes (cxOf (L2.CX B.P B.w) B.P B.w B.K B.mg B.base ["house", "found", "place", "limit", "more", "row", "age"] "_law_all_ages" (defScope (top 58)) f cdv A outer s H E) (fun cls dd _ H => E cls dd H) := takes_of rfl rfl rfl rfl
  have hp : PassesOwn (model B.P B.w) (A.deeper (envOfC "_law_all_ages" (defScope (top 58)) s.heap.objs.size f cdv)) (envOfC "_law_all_ages" (defScope (top 58)) s.heap.objs.size f cdv) (cxOf (L2.CX B.P B.w) B.P B.w B.K B.mg B.base ["house", "found", "place", "limit", "more", "row", "age"] "_law_all_ages" (defScope (top 58)) f cdv A outer s H E).xe := passes_of rfl
  have hN : (["house", "found", "place", "limit", "more", "row", "age"] : List Str).Nodup := sc__law_all_ages.nd
  exact (sb_cons (ss_set hN rfl (by first | exact .inl rfl | exact .inr rfl) (ee_lst (ea_cons (ee_tup ea_nil) ea_nil rfl)) rfl (by first | exact .inl rfl | exact .inr rfl))
  (sb_cons (ss_for hp rfl (ie_val (ee_var rfl (by first | exact .inl rfl | exact .inr (.inl rfl) | exact .inr (.inr rfl)) d1_house d2_house)) (pg_tup rfl (pgs_cons (pg_name hN rfl (by first | exact .inl rfl | exact .inr rfl) (by first | exact .inl rfl | exact .inr rfl)) (pgs_cons (pg_name hN rfl (by first | exact .inl rfl | exact .inr rfl) (by first | exact .inl rfl | exact .inr rfl)) pgs_nil))) (sb_cons (ss_set hN rfl (by first | exact .inl rfl | exact .inr rfl) (ee_lst ea_nil) rfl (by first | exact .inl rfl | exact .inr rfl))
  (sb_cons (ss_for hp rfl (ie_val (ee_var rfl (by first | exact .inl rfl | exact .inr (.inl rfl) | exact .inr (.inr rfl)) d1_found d2_found)) (pg_name hN rfl (by first | exact .inl rfl | exact .inr rfl) (by first | exact .inl rfl | exact .inr rfl)) (sb_cons (ss_set hN rfl (by first | exact .inl rfl | exact .inr rfl) (ee_op2 op_addD (ee_var rfl (by first | exact .inl rfl | exact .inr (.inl rfl) | exact .inr (.inr rfl)) d1_more d2_more) (en_ee (ee_comp rfl hN (ie_range1 (by rfl) g.n_range (ee_var rfl (by first | exact .inl rfl | exact .inr (.inl rfl) | exact .inr (.inr rfl)) d1_limit d2_limit) rfl) (blk_by (own := [("age", 6)]) (by kernel_rfl)) (fun s0 H0 C0 cl0 fp0 => (pg_name hN rfl (by first | exact .inl rfl | exact .inr rfl) (by first | exact .inl rfl | exact .inr rfl))) (fun s0 H0 C0 cl0 fp0 => pts0) (fun s0 H0 C0 cl0 fp0 => (ee_op2 op_addD (ee_var rfl (by first | exact .inl rfl | exact .inr (.inl rfl) | exact .inr (.inr rfl)) d1_row d2_row) (ee_tup (ea_cons (ee_var rfl (by first | exact .inl rfl | exact .inr (.inl rfl) | exact .inr (.inr rfl)) d1_age d2_age) ea_nil rfl)))) (fun _ => rfl) (by decide)))) rfl (by first | exact .inl rfl | exact .inr rfl))
  sb_nil) (fun _ => rfl))
  (sb_cons (ss_set hN rfl (by first | exact .inl rfl | exact .inr rfl) (ee_var rfl (by first | exact .inl rfl | exact .inr (.inl rfl) | exact .inr (.inr rfl)) d1_more d2_more) rfl (by first | exact .inl rfl | exact .inr rfl))
  sb_nil))) (fun _ => rfl))
  (sb_cons (ss_ret (ee_var rfl (by first | exact .inl rfl | exact .inr (.inl rfl) | exact .inr (.inr rfl)) d1_found d2_found))
  sb_nil)))
theorem ok__law_all_ages_1 {B : Bd} (g : G B) : Fn B "_law_all_ages" 1 1 sem__law_all_ages [] := by
  obtain ⟨f, fd, h1, F⟩ := g.f__law_all_ages
  have bT := F.bindsN (ps := ["house"]) fun _ _ _ _ _ _ us hl => match us, hl with | [_], _ => rfl
  exact ⟨⟨f, fd, ["house"], [], [], h1, F.kp, fn_ok F sc__law_all_ages fun cdv A outer s H E hr => ss__law_all_ages g hr, bT, .nil, fun _ _ => .nil⟩⟩
theorem sc__law_behind : FnScope ["house", "ages", "look", "found", "k", "age"] ["house", "ages", "look"] (defScope (top 59)) := fsc_by (by decide +kernel)
theorem ss__law_behind {B : Bd} (g : G B) {f : Addr} {cdv : Value} {A : Around} {outer : List Env} {s : Shared} {H : Hp} {E : XK} (hr : Room 0 (A.deeper (envOfC "_law_behind" (defScope (top 59)) s.heap.objs.size f cdv))) :
    SB (cxOf (L2.CX B.P B.w) B.P B.w B.K B.mg B.base ["house", "ages", "look", "found", "k", "age"] "_law_behind" (defScope (top 59)) f cdv A outer s H E) B.T (fun cls dd _ H => E cls dd H) (defBody (top 59)) m__law_behind := by
  have tk : Takes (cxOf (L2.CX B.P B.w) B.P B.w B.K B.mg B.base ["house", "ages", "look", "found", "k", "age"] "_law_behind" (defScope (top 59)) f cdv A outer s H E) (fun cls dd _ H => E cls dd H) := takes_of rfl rfl rfl rfl
  have hp : PassesOwn (model B.P B.w) (A.deeper (envOfC "_law_behind" (defScope (top 59)) s.heap.objs.size f cdv)) (envOfC "_law_behind" (defScope (top 59)) s.heap.objs.size f cdv) (cxOf (L2.CX B.P B.w) B.P B.w B.K B.mg B.base ["house", "ages", "look", "found", "k", "age"] "_law_behind" (defScope (top 59)) f cdv A outer s H E).xe := passes_of rfl
  have hN : (["house", "ages", "look", "found", "k", "age"] : List Str).Nodup := sc__law_behind.nd
  exact (sb_cons (ss_set hN rfl (by first | exact .inl rfl | exact .inr rfl) (ee_tup ea_nil) rfl (by first | exact .inl rfl | exact .inr rfl))
  (sb_cons (ss_for hp rfl (ie_range1 (by rfl) g.n_range (ee_callB cd_len (by rfl) g.n_len (by decide +kernel) (eab_cons (eb_var rfl (by first | exact .inl rfl | exact .inr (.inl rfl) | exact .inr (.inr rfl)) d1_house d2_house) eab_nil rfl) (by decide +kernel) d1_len rfl rfl) rfl) (pg_name hN rfl (by first | exact .inl rfl | exact .inr rfl) (by first | exact .inl rfl | exact .inr rfl)) (sb_cons (ss_set hN rfl (by first | exact .inl rfl | exact .inr rfl) (ee_if (et_cmp (op_eqDD hr.units) (EE.toB (ee_ixS hr.u1 (EE.toB (ee_ixS hr.u1 (eb_var rfl (by first | exact .inl rfl | exact .inr (.inl rfl) | exact .inr (.inr rfl)) d1_house d2_house) (ee_var rfl (by first | exact .inl rfl | exact .inr (.inl rfl) | exact .inr (.inr rfl)) d1_k d2_k) (fun _ _ => rfl))) ee_int (fun _ _ => rfl))) (eb_var rfl (by first | exact .inl rfl | exact .inr (.inl rfl) | exact .inr (.inr rfl)) d1_look d2_look) rfl) ee_int (ee_op2 op_addD (ee_ixS hr.u1 (eb_var rfl (by first | exact .inl rfl | exact .inr (.inl rfl) | exact .inr (.inr rfl)) d1_ages d2_ages) (ee_var rfl (by first | exact .inl rfl | exact .inr (.inl rfl) | exact .inr (.inr rfl)) d1_k d2_k) (fun _ _ => rfl)) ee_int)) rfl (by first | exact .inl rfl | exact .inr rfl))
  (sb_cons (ss_if (et_cmp op_geDD (eb_var rfl (by first | exact .inl rfl | exact .inr (.inl rfl) | exact .inr (.inr rfl)) d1_age d2_age) (EE.toB (ee_ixS hr.u1 (EE.toB (ee_ixS hr.u1 (eb_var rfl (by first | exact .inl rfl | exact .inr (.inl rfl) | exact .inr (.inr rfl)) d1_house d2_house) (ee_var rfl (by first | exact .inl rfl | exact .inr (.inl rfl) | exact .inr (.inr rfl)) d1_k d2_k) (fun _ _ => rfl))) ee_int (fun _ _ => rfl))) rfl) (sb_cons (ss_ret ee_non)
  sb_nil) sb_nil)
  (sb_cons (ss_set hN rfl (by first | exact .inl rfl | exact .inr rfl) (ee_op2 op_addD (ee_var rfl (by first | exact .inl rfl | exact .inr (.inl rfl) | exact .inr (.inr rfl)) d1_found d2_found) (ee_tup (ea_cons (ee_var rfl (by first | exact .inl rfl | exact .inr (.inl rfl) | exact .inr (.inr rfl)) d1_age d2_age) ea_nil rfl))) rfl (by first | exact .inl rfl | exact .inr rfl))
  sb_nil))) (fun _ => rfl))
  (sb_cons (ss_ret (ee_var rfl (by first | exact .inl rfl | exact .inr (.inl rfl) | exact .inr (.inr rfl)) d1_found d2_found))
  sb_nil)))
theorem ok__law_behind_3 {B : Bd} (g : G B) : Fn B "_law_behind" 1 3 sem__law_behind [] := by
  obtain ⟨f, fd, h1, F⟩ := g.f__law_behind
  have bT := F.bindsN (ps := ["house", "ages", "look"]) fun _ _ _ _ _ _ us hl => match us, hl with | [_, _, _], _ => rfl
  exact ⟨⟨f, fd, ["house", "ages", "look"], [], [], h1, F.kp, fn_ok F sc__law_behind fun cdv A outer s H E hr => ss__law_behind g hr, bT, .nil, fun _ _ => .nil⟩⟩
theorem sc__law_ways : FnScope ["house", "found", "ages", "some", "look", "row"] ["house"] (defScope (top 60)) := fsc_by (by decide +kernel)
theorem ss__law_ways {B : Bd} (g : G B) {f : Addr} {cdv : Value} {A : Around} {outer : List Env} {s : Shared} {H : Hp} {E : XK} (hr : Room 2 (A.deeper (envOfC "_law_ways" (defScope (top 60)) s.heap.objs.size f cdv))) :
    SB (cxOf (L2.CX B.P B.w) B.P B.w B.K B.mg B.base ["house", "found", "ages", "some", "look", "row"] "_law_ways" (defScope (top 60)) f cdv A outer s H E) B.T (fun cls dd _ H => E cls dd H) (defBody (top 60)) m__law_ways := by
  have tk : Takes (cxOf (L2.CX B.P B.w) B.P B.w B.K B.mg B.base ["house", "found", "ages", "some", "look", "row"] "_law_ways" (defScope (top 60)) f cdv A outer s H E) (fun cls dd _ H => E cls dd H) := takes_of rfl rfl rfl rfl
  have hp : PassesOwn (model B.P B.w) (A.deeper (envOfC "_law_ways" (defScope (top 60)) s.heap.objs.size f cdv)) (envOfC "_law_ways" (defScope (top 60)) s.heap.objs.size f cdv) (cxOf (L2.CX B.P B.w) B.P B.w B.K B.mg B.base ["house", "found", "ages", "some", "look", "row"] "_law_ways" (defScope (top 60)) f cdv A outer s H E).xe := passes_of rfl
  have hN : (["house", "found", "ages", "some", "look", "row"] : List Str).Nodup := sc__law_ways.nd
  exact (sb_cons (ss_setO hN rfl (by first | exact .inl rfl | exact .inr rfl) eo_dct0 rfl (by first | exact .inl rfl | exact .inr rfl))
  (sb_cons (ss_for hp rfl (ie_val (ee_fn (ok__law_all_ages_1 g) (hr.mono (by decide)) tk rfl rfl (ln_cons ln_nil) (ex_of (ea_cons (ee_var rfl (by first | exact .inl rfl | exact .inr (.inl rfl) | exact .inr (.inr rfl)) d1_house d2_house) ea_nil rfl)) d1__law_all_ages rfl rfl)) (pg_name hN rfl (by first | exact .inl rfl | exact .inr rfl) (by first | exact .inl rfl | exact .inr rfl)) (sb_cons (ss_setLc rfl hN rfl rfl (sw_true rfl rfl rfl rfl) (ie_val (ee_fn (ok__law_looks_1 g) (hr.mono (by decide)) tk rfl rfl (ln_cons ln_nil) (ex_of (ea_cons (ee_var rfl (by first | exact .inl rfl | exact .inr (.inl rfl) | exact .inr (.inr rfl)) d1_house d2_house) ea_nil rfl)) d1__law_looks rfl rfl)) (blk_by (own := [("look", 4)]) (by kernel_rfl)) (fun s0 H0 C0 cl0 fp0 => (pg_name hN rfl (by first | exact .inl rfl | exact .inr rfl) (by first | exact .inl rfl | exact .inr rfl))) (fun s0 H0 C0 cl0 fp0 => pts0) (fun s0 H0 C0 cl0 fp0 => (ee_tup (ea_cons (ee_var rfl (by first | exact .inl rfl | exact .inr (.inl rfl) | exact .inr (.inr rfl)) d1_look d2_look) (ea_cons (ee_fn (ok__law_behind_3 g) (hr.mono (by decide)) tk_blk rfl rfl (ln_cons (ln_cons (ln_cons ln_nil))) (ex_of (ea_cons (ee_var rfl (by first | exact .inl rfl | exact .inr (.inl rfl) | exact .inr (.inr rfl)) d1_house d2_house) (ea_cons (ee_var rfl (by first | exact .inl rfl | exact .inr (.inl rfl) | exact .inr (.inr rfl)) d1_ages d2_ages) (ea_cons (ee_var rfl (by first | exact .inl rfl | exact .inr (.inl rfl) | exact .inr (.inr rfl)) d1_look d2_look) ea_nil rfl) rfl) rfl)) d1__law_behind rfl rfl) ea_nil rfl) rfl))) (fun _ => rfl) (by decide))
  (sb_cons (ss_put hr.u1 rfl (by first | exact .inl rfl | exact .inr (.inl rfl) | exact .inr (.inr rfl)) d1_found d2_found (en_ee (ee_comp rfl hN (ie_val (ee_var rfl (by first | exact .inl rfl | exact .inr (.inl rfl) | exact .inr (.inr rfl)) d1_some d2_some)) (blk_by (own := [("row", 5)]) (by kernel_rfl)) (fun s0 H0 C0 cl0 fp0 => (pg_name hN rfl (by first | exact .inl rfl | exact .inr rfl) (by first | exact .inl rfl | exact .inr rfl))) (fun s0 H0 C0 cl0 fp0 => (pts1 (et_notN (EE.toB (ee_ixS hr.u1 (eb_var rfl (by first | exact .inl rfl | exact .inr (.inl rfl) | exact .inr (.inr rfl)) d1_row d2_row) ee_int (fun _ _ => rfl)))))) (fun s0 H0 C0 cl0 fp0 => (ee_var rfl (by first | exact .inl rfl | exact .inr (.inl rfl) | exact .inr (.inr rfl)) d1_row d2_row)) (fun _ => rfl) (by decide))) (ee_var rfl (by first | exact .inl rfl | exact .inr (.inl rfl) | exact .inr (.inr rfl)) d1_ages d2_ages) rfl rfl rfl (fun _ => rfl))
  sb_nil)) (fun _ => rfl))
  (sb_frz (sb_cons (ss_ret (ee_var rfl (by first | exact .inl rfl | exact .inr (.inl rfl) | exact .inr (.inr rfl)) d1_found d2_found))
  sb_nil))))
theorem ok__law_ways_1 {B : Bd} (g : G B) : Fn B "_law_ways" 3 1 sem__law_ways [] := by
  obtain ⟨f, fd, h1, F⟩ := g.f__law_ways
  have bT := F.bindsN (ps := ["house"]) fun _ _ _ _ _ _ us hl => match us, hl with | [_], _ => rfl
  exact ⟨⟨f, fd, ["house"], [], [], h1, F.kp, fn_ok F sc__law_ways fun cdv A outer s H E hr => ss__law_ways g hr, bT, .nil, fun _ _ => .nil⟩⟩
theorem sc__law_safe : FnScope ["house", "ways", "left", "lap", "some", "ages", "new", "look", "to"] ["house"] (defScope (top 61)) := fsc_by (by decide +kernel)
theorem ss__law_safe {B : Bd} (g : G B) {f : Addr} {cdv : Value} {A : Around} {outer : List Env} {s : Shared} {H : Hp} {E : XK} (hr : Room 3 (A.deeper (envOfC "_law_safe" (defScope (top 61)) s.heap.objs.size f cdv))) :
    SB (cxOf (L2.CX B.P B.w) B.P B.w B.K B.mg B.base ["house", "ways", "left", "lap", "some", "ages", "new", "look", "to"] "_law_safe" (defScope (top 61)) f cdv A outer s H E) B.T (fun cls dd _ H => E cls dd H) (defBody (top 61)) m__law_safe := by
  have tk : Takes (cxOf (L2.CX B.P B.w) B.P B.w B.K B.mg B.base ["house", "ways", "left", "lap", "some", "ages", "new", "look", "to"] "_law_safe" (defScope (top 61)) f cdv A outer s H E) (fun cls dd _ H => E cls dd H) := takes_of rfl rfl rfl rfl
  have hp : PassesOwn (model B.P B.w) (A.deeper (envOfC "_law_safe" (defScope (top 61)) s.heap.objs.size f cdv)) (envOfC "_law_safe" (defScope (top 61)) s.heap.objs.size f cdv) (cxOf (L2.CX B.P B.w) B.P B.w B.K B.mg B.base ["house", "ways", "left", "lap", "some", "ages", "new", "look", "to"] "_law_safe" (defScope (top 61)) f cdv A outer s H E).xe := passes_of rfl
  have hN : (["house", "ways", "left", "lap", "some", "ages", "new", "look", "to"] : List Str).Nodup := sc__law_safe.nd
  exact (sb_cons (ss_set hN rfl (by first | exact .inl rfl | exact .inr rfl) (ee_fn (ok__law_ways_1 g) (hr.mono (by decide)) tk rfl rfl (ln_cons ln_nil) (ex_of (ea_cons (ee_var rfl (by first | exact .inl rfl | exact .inr (.inl rfl) | exact .inr (.inr rfl)) d1_house d2_house) ea_nil rfl)) d1__law_ways rfl rfl) rfl (by first | exact .inl rfl | exact .inr rfl))
  (sb_cons (ss_set hN rfl (by first | exact .inl rfl | exact .inr rfl) (ee_callTy (cd_list2 rfl) (by rfl) g.n_list (by decide +kernel) (eab_cons (eb_var rfl (by first | exact .inl rfl | exact .inr (.inl rfl) | exact .inr (.inr rfl)) d1_ways d2_ways) eab_nil rfl) (by decide +kernel) d1_list rfl rfl) rfl (by first | exact .inl rfl | exact .inr rfl))
  (sb_cons (ss_for hp rfl (ie_range1 (by rfl) g.n_range (ee_op2 op_addD (ee_callB cd_len (by rfl) g.n_len (by decide +kernel) (eab_cons (eb_var rfl (by first | exact .inl rfl | exact .inr (.inl rfl) | exact .inr (.inr rfl)) d1_left d2_left) eab_nil rfl) (by decide +kernel) d1_len rfl rfl) ee_int) rfl) (pg_name hN rfl (by first | exact .inl rfl | exact .inr rfl) (by first | exact .inl rfl | exact .inr rfl)) (sb_cons (ss_setO hN rfl (by first | exact .inl rfl | exact .inr rfl) eo_dct0 rfl (by first | exact .inl rfl | exact .inr rfl))
  (sb_cons (ss_for hp rfl (ie_val (ee_var rfl (by first | exact .inl rfl | exact .inr (.inl rfl) | exact .inr (.inr rfl)) d1_left d2_left)) (pg_name hN rfl (by first | exact .inl rfl | exact .inr rfl) (by first | exact .inl rfl | exact .inr rfl)) (sb_cons (ss_put hr.u1 rfl (by first | exact .inl rfl | exact .inr (.inl rfl) | exact .inr (.inr rfl)) d1_some d2_some ee_bl (ee_var rfl (by first | exact .inl rfl | exact .inr (.inl rfl) | exact .inr (.inr rfl)) d1_ages d2_ages) rfl rfl rfl (fun _ => rfl))
  sb_nil) (fun _ => rfl))
  (sb_cons (ss_setLc rfl hN rfl rfl (sw_true rfl rfl rfl rfl) (ie_val (ee_var rfl (by first | exact .inl rfl | exact .inr (.inl rfl) | exact .inr (.inr rfl)) d1_left d2_left)) (blk_by (own := [("ages", 5)]) (by kernel_rfl)) (fun s0 H0 C0 cl0 fp0 => (pg_name hN rfl (by first | exact .inl rfl | exact .inr rfl) (by first | exact .inl rfl | exact .inr rfl))) (fun s0 H0 C0 cl0 fp0 => (pts1 (et_cmp (op_neDD hr.units) (EE.toB (en_ee (ee_comp rfl hN (ie_val (ee_ixS hr.u1 (eb_var rfl (by first | exact .inl rfl | exact .inr (.inl rfl) | exact .inr (.inr rfl)) d1_ways d2_ways) (ee_var rfl (by first | exact .inl rfl | exact .inr (.inl rfl) | exact .inr (.inr rfl)) d1_ages d2_ages) (fun _ _ => rfl))) (blk_by (own := [("look", 7), ("to", 8)]) (by kernel_rfl)) (fun s0 H0 C0 cl0 fp0 => (pg_tup rfl (pgs_cons (pg_name hN rfl (by first | exact .inl rfl | exact .inr rfl) (by first | exact .inl rfl | exact .inr rfl)) (pgs_cons (pg_name hN rfl (by first | exact .inl rfl | exact .inr rfl) (by first | exact .inl rfl | exact .inr rfl)) pgs_nil)))) (fun s0 H0 C0 cl0 fp0 => (pts1 (et_mem (op_mem hr.u65 false) (ee_var rfl (by first | exact .inl rfl | exact .inr (.inl rfl) | exact .inr (.inr rfl)) d1_to d2_to) (eb_var rfl (by first | exact .inl rfl | exact .inr (.inl rfl) | exact .inr (.inr rfl)) d1_some d2_some) rfl))) (fun s0 H0 C0 cl0 fp0 => (ee_var rfl (by first | exact .inl rfl | exact .inr (.inl rfl) | exact .inr (.inr rfl)) d1_to d2_to)) (fun _ => rfl) (by decide)))) (EE.toB (ee_lst ea_nil)) rfl))) (fun s0 H0 C0 cl0 fp0 => (ee_var rfl (by first | exact .inl rfl | exact .inr (.inl rfl) | exact .inr (.inr rfl)) d1_ages d2_ages)) (fun _ => rfl) (by decide))
  (sb_cons (ss_if (et_cmp (op_eqDD hr.units) (EE.toB (ee_callB cd_len (by rfl) g.n_len (by decide +kernel) (eab_cons (eb_var rfl (by first | exact .inl rfl | exact .inr (.inl rfl) | exact .inr (.inr rfl)) d1_new d2_new) eab_nil rfl) (by decide +kernel) d1_len rfl rfl)) (EE.toB (ee_callB cd_len (by rfl) g.n_len (by decide +kernel) (eab_cons (eb_var rfl (by first | exact .inl rfl | exact .inr (.inl rfl) | exact .inr (.inr rfl)) d1_left d2_left) eab_nil rfl) (by decide +kernel) d1_len rfl rfl)) rfl) (sb_cons (ss_ret (ee_var rfl (by first | exact .inl rfl | exact .inr (.inl rfl) | exact .inr (.inr rfl)) d1_left d2_left))
  sb_nil) sb_nil)
  (sb_cons (ss_set hN rfl (by first | exact .inl rfl | exact .inr rfl) (ee_var rfl (by first | exact .inl rfl | exact .inr (.inl rfl) | exact .inr (.inr rfl)) d1_new d2_new) rfl (by first | exact .inl rfl | exact .inr rfl))
  sb_nil))))) (fun _ => rfl))
  (sb_cons (ss_ret (ee_var rfl (by first | exact .inl rfl | exact .inr (.inl rfl) | exact .inr (.inr rfl)) d1_left d2_left))
  sb_nil))))
theorem ok__law_safe_1 {B : Bd} (g : G B) : Fn B "_law_safe" 4 1 sem__law_safe [] := by
  obtain ⟨f, fd, h1, F⟩ := g.f__law_safe
  have bT := F.bindsN (ps := ["house"]) fun _ _ _ _ _ _ us hl => match us, hl with | [_], _ => rfl
  exact ⟨⟨f, fd, ["house"], [], [], h1, F.kp, fn_ok F sc__law_safe fun cdv A outer s H E hr => ss__law_safe g hr, bT, .nil, fun _ _ => .nil⟩⟩
theorem sc__law_nothing : FnScope ["house"] ["house"] (defScope (top 62)) := fsc_by (by decide +kernel)
theorem ss__law_nothing {B : Bd} (g : G B) {f : Addr} {cdv : Value} {A : Around} {outer : List Env} {s : Shared} {H : Hp} {E : XK} (hr : Room 0 (A.deeper (envOfC "_law_nothing" (defScope (top 62)) s.heap.objs.size f cdv))) :
    SB (cxOf (L2.CX B.P B.w) B.P B.w B.K B.mg B.base ["house"] "_law_nothing" (defScope (top 62)) f cdv A outer s H E) B.T (fun cls dd _ H => E cls dd H) (defBody (top 62)) m__law_nothing := by
  have tk : Takes (cxOf (L2.CX B.P B.w) B.P B.w B.K B.mg B.base ["house"] "_law_nothing" (defScope (top 62)) f cdv A outer s H E) (fun cls dd _ H => E cls dd H) := takes_of rfl rfl rfl rfl
  have hp : PassesOwn (model B.P B.w) (A.deeper (envOfC "_law_nothing" (defScope (top 62)) s.heap.objs.size f cdv)) (envOfC "_law_nothing" (defScope (top 62)) s.heap.objs.size f cdv) (cxOf (L2.CX B.P B.w) B.P B.w B.K B.mg B.base ["house"] "_law_nothing" (defScope (top 62)) f cdv A outer s H E).xe := passes_of rfl
  have hN : (["house"] : List Str).Nodup := sc__law_nothing.nd
  exact (sb_cons (ss_ret (ee_op2 op_mulD (ee_tup (ea_cons ee_int ea_nil rfl)) (ee_callB cd_len (by rfl) g.n_len (by decide +kernel) (eab_cons (eb_var rfl (by first | exact .inl rfl | exact .inr (.inl rfl) | exact .inr (.inr rfl)) d1_house d2_house) eab_nil rfl) (by decide +kernel) d1_len rfl rfl)))
  sb_nil)
theorem ok__law_nothing_1 {B : Bd} (g : G B) : Fn B "_law_nothing" 1 1 sem__law_nothing [] := by
  obtain ⟨f, fd, h1, F⟩ := g.f__law_nothing
  have bT := F.bindsN (ps := ["house"]) fun _ _ _ _ _ _ us hl => match us, hl with | [_], _ => rfl
  exact ⟨⟨f, fd, ["house"], [], [], h1, F.kp, fn_ok F sc__law_nothing fun cdv A outer s H E hr => ss__law_nothing g hr, bT, .nil, fun _ _ => .nil⟩⟩
theorem sc__law_gaps : FnScope ["house", "row", "found", "place", "at", "gaps", "k"] ["house", "row"] (defScope (top 63)) := fsc_by (by decide +kernel)
theorem ss__law_gaps {B : Bd} (g : G B) {f : Addr} {cdv : Value} {A : Around} {outer : List Env} {s : Shared} {H : Hp} {E : XK} (hr : Room 1 (A.deeper (envOfC "_law_gaps" (defScope (top 63)) s.heap.objs.size f cdv))) :
    SB (cxOf (L2.CX B.P B.w) B.P B.w B.K B.mg B.base ["house", "row", "found", "place", "at", "gaps", "k"] "_law_gaps" (defScope (top 63)) f cdv A outer s H E) B.T (fun cls dd _ H => E cls dd H) (defBody (top 63)) m__law_gaps := by
  have tk : Takes (cxOf (L2.CX B.P B.w) B.P B.w B.K B.mg B.base ["house", "row", "found", "place", "at", "gaps", "k"] "_law_gaps" (defScope (top 63)) f cdv A outer s H E) (fun cls dd _ H => E cls dd H) := takes_of rfl rfl rfl rfl
  have hp : PassesOwn (model B.P B.w) (A.deeper (envOfC "_law_gaps" (defScope (top 63)) s.heap.objs.size f cdv)) (envOfC "_law_gaps" (defScope (top 63)) s.heap.objs.size f cdv) (cxOf (L2.CX B.P B.w) B.P B.w B.K B.mg B.base ["house", "row", "found", "place", "at", "gaps", "k"] "_law_gaps" (defScope (top 63)) f cdv A outer s H E).xe := passes_of rfl
  have hN : (["house", "row", "found", "place", "at", "gaps", "k"] : List Str).Nodup := sc__law_gaps.nd
  exact (sb_cons (ss_setO hN rfl (by first | exact .inl rfl | exact .inr rfl) (eo_of (en_lst ea_nil)) rfl (by first | exact .inl rfl | exact .inr rfl))
  (sb_cons (ss_for hp rfl (ie_val (ee_fn (ok__law_places_1 g) (hr.mono (by decide)) tk rfl rfl (ln_cons ln_nil) (ex_of (ea_cons (ee_var rfl (by first | exact .inl rfl | exact .inr (.inl rfl) | exact .inr (.inr rfl)) d1_house d2_house) ea_nil rfl)) d1__law_places rfl rfl)) (pg_name hN rfl (by first | exact .inl rfl | exact .inr rfl) (by first | exact .inl rfl | exact .inr rfl)) (sb_cons (ss_set hN rfl (by first | exact .inl rfl | exact .inr rfl) (en_ee (ee_comp rfl hN (ie_range1 (by rfl) g.n_range (ee_callB cd_len (by rfl) g.n_len (by decide +kernel) (eab_cons (eb_var rfl (by first | exact .inl rfl | exact .inr (.inl rfl) | exact .inr (.inr rfl)) d1_row d2_row) eab_nil rfl) (by decide +kernel) d1_len rfl rfl) rfl) (blk_by (own := [("k", 6)]) (by kernel_rfl)) (fun s0 H0 C0 cl0 fp0 => (pg_name hN rfl (by first | exact .inl rfl | exact .inr rfl) (by first | exact .inl rfl | exact .inr rfl))) (fun s0 H0 C0 cl0 fp0 => (pts1 (et_cmp (op_eqDD hr.units) (EE.toB (ee_ixS hr.u1 (eb_var rfl (by first | exact .inl rfl | exact .inr (.inl rfl) | exact .inr (.inr rfl)) d1_row d2_row) (ee_var rfl (by first | exact .inl rfl | exact .inr (.inl rfl) | exact .inr (.inr rfl)) d1_k d2_k) (fun _ _ => rfl))) (eb_var rfl (by first | exact .inl rfl | exact .inr (.inl rfl) | exact .inr (.inr rfl)) d1_place d2_place) rfl))) (fun s0 H0 C0 cl0 fp0 => (ee_var rfl (by first | exact .inl rfl | exact .inr (.inl rfl) | exact .inr (.inr rfl)) d1_k d2_k)) (fun _ => rfl) (by decide))) rfl (by first | exact .inl rfl | exact .inr rfl))
  (sb_cons (ss_setLc rfl hN rfl rfl (sw_true rfl rfl rfl rfl) (ie_range1 (by rfl) g.n_range (ee_callB cd_len (by rfl) g.n_len (by decide +kernel) (eab_cons (eb_var rfl (by first | exact .inl rfl | exact .inr (.inl rfl) | exact .inr (.inr rfl)) d1_at d2_at) eab_nil rfl) (by decide +kernel) d1_len rfl rfl) rfl) (blk_by (own := [("k", 6)]) (by kernel_rfl)) (fun s0 H0 C0 cl0 fp0 => (pg_name hN rfl (by first | exact .inl rfl | exact .inr rfl) (by first | exact .inl rfl | exact .inr rfl))) (fun s0 H0 C0 cl0 fp0 => pts0) (fun s0 H0 C0 cl0 fp0 => (ee_if (et_cmp op_gtDD (eb_var rfl (by first | exact .inl rfl | exact .inr (.inl rfl) | exact .inr (.inr rfl)) d1_k d2_k) (EE.toB ee_int) rfl) (ee_op2 op_subD (ee_ixS hr.u1 (eb_var rfl (by first | exact .inl rfl | exact .inr (.inl rfl) | exact .inr (.inr rfl)) d1_at d2_at) (ee_var rfl (by first | exact .inl rfl | exact .inr (.inl rfl) | exact .inr (.inr rfl)) d1_k d2_k) (fun _ _ => rfl)) (ee_ixS hr.u1 (eb_var rfl (by first | exact .inl rfl | exact .inr (.inl rfl) | exact .inr (.inr rfl)) d1_at d2_at) (ee_op2 op_subD (ee_var rfl (by first | exact .inl rfl | exact .inr (.inl rfl) | exact .inr (.inr rfl)) d1_k d2_k) ee_int) (fun _ _ => rfl))) (ee_op2 op_subD (ee_op2 op_addD (ee_ixS hr.u1 (eb_var rfl (by first | exact .inl rfl | exact .inr (.inl rfl) | exact .inr (.inr rfl)) d1_at d2_at) ee_int (fun _ _ => rfl)) (ee_callB cd_len (by rfl) g.n_len (by decide +kernel) (eab_cons (eb_var rfl (by first | exact .inl rfl | exact .inr (.inl rfl) | exact .inr (.inr rfl)) d1_row d2_row) eab_nil rfl) (by decide +kernel) d1_len rfl rfl)) (ee_ixS hr.u1 (eb_var rfl (by first | exact .inl rfl | exact .inr (.inl rfl) | exact .inr (.inr rfl)) d1_at d2_at) (ee_neg ee_int) (fun _ _ => rfl))))) (fun _ => rfl) (by decide))
  (sb_cons (ss_app rfl (by first | exact .inl rfl | exact .inr (.inl rfl) | exact .inr (.inr rfl)) d1_found d2_found (ee_if (et_cmp (op_neDD hr.units) (eb_var rfl (by first | exact .inl rfl | exact .inr (.inl rfl) | exact .inr (.inr rfl)) d1_gaps d2_gaps) (EE.toB (ee_lst ea_nil)) rfl) (ee_callB (cd_max rfl) (by rfl) g.n_max (by decide +kernel) (eab_cons (eb_var rfl (by first | exact .inl rfl | exact .inr (.inl rfl) | exact .inr (.inr rfl)) d1_gaps d2_gaps) eab_nil rfl) (by decide +kernel) d1_max rfl rfl) ee_non) rfl rfl rfl rfl rfl rfl)
  sb_nil))) (fun _ => rfl))
  (sb_frz (sb_cons (ss_ret (ee_var rfl (by first | exact .inl rfl | exact .inr (.inl rfl) | exact .inr (.inr rfl)) d1_found d2_found))
  sb_nil))))
theorem ok__law_gaps_2 {B : Bd} (g : G B) : Fn B "_law_gaps" 2 2 sem__law_gaps [] := by
  obtain ⟨f, fd, h1, F⟩ := g.f__law_gaps
  have bT := F.bindsN (ps := ["house", "row"]) fun _ _ _ _ _ _ us hl => match us, hl with | [_, _], _ => rfl
  exact ⟨⟨f, fd, ["house", "row"], [], [], h1, F.kp, fn_ok F sc__law_gaps fun cdv A outer s H E hr => ss__law_gaps g hr, bT, .nil, fun _ _ => .nil⟩⟩
theorem sc__law_keeps_round : FnScope ["house", "row", "gaps", "k"] ["house", "row"] (defScope (top 64)) := fsc_by (by decide +kernel)
theorem ss__law_keeps_round {B : Bd} (g : G B) {f : Addr} {cdv : Value} {A : Around} {outer : List Env} {s : Shared} {H : Hp} {E : XK} (hr : Room 2 (A.deeper (envOfC "_law_keeps_round" (defScope (top 64)) s.heap.objs.size f cdv))) :
    SB (cxOf (L2.CX B.P B.w) B.P B.w B.K B.mg B.base ["house", "row", "gaps", "k"] "_law_keeps_round" (defScope (top 64)) f cdv A outer s H E) B.T (fun cls dd _ H => E cls dd H) (defBody (top 64)) m__law_keeps_round := by
  have tk : Takes (cxOf (L2.CX B.P B.w) B.P B.w B.K B.mg B.base ["house", "row", "gaps", "k"] "_law_keeps_round" (defScope (top 64)) f cdv A outer s H E) (fun cls dd _ H => E cls dd H) := takes_of rfl rfl rfl rfl
  have hp : PassesOwn (model B.P B.w) (A.deeper (envOfC "_law_keeps_round" (defScope (top 64)) s.heap.objs.size f cdv)) (envOfC "_law_keeps_round" (defScope (top 64)) s.heap.objs.size f cdv) (cxOf (L2.CX B.P B.w) B.P B.w B.K B.mg B.base ["house", "row", "gaps", "k"] "_law_keeps_round" (defScope (top 64)) f cdv A outer s H E).xe := passes_of rfl
  have hN : (["house", "row", "gaps", "k"] : List Str).Nodup := sc__law_keeps_round.nd
  exact (sb_cons (ss_if (et_cmp (op_eqDD hr.units) (eb_var rfl (by first | exact .inl rfl | exact .inr (.inl rfl) | exact .inr (.inr rfl)) d1_row d2_row) (EE.toB (ee_tup ea_nil)) rfl) (sb_cons (ss_ret ee_bl)
  sb_nil) sb_nil)
  (sb_cons (ss_set hN rfl (by first | exact .inl rfl | exact .inr rfl) (ee_fn (ok__law_gaps_2 g) (hr.mono (by decide)) tk rfl rfl (ln_cons (ln_cons ln_nil)) (ex_of (ea_cons (ee_var rfl (by first | exact .inl rfl | exact .inr (.inl rfl) | exact .inr (.inr rfl)) d1_house d2_house) (ea_cons (ee_var rfl (by first | exact .inl rfl | exact .inr (.inl rfl) | exact .inr (.inr rfl)) d1_row d2_row) ea_nil rfl) rfl)) d1__law_gaps rfl rfl) rfl (by first | exact .inl rfl | exact .inr rfl))
  (sb_cons (ss_ret (ee_cmp (op_eqDD hr.units) (EE.toB (en_ee (ee_comp rfl hN (ie_range1 (by rfl) g.n_range (ee_callB cd_len (by rfl) g.n_len (by decide +kernel) (eab_cons (eb_var rfl (by first | exact .inl rfl | exact .inr (.inl rfl) | exact .inr (.inr rfl)) d1_house d2_house) eab_nil rfl) (by decide +kernel) d1_len rfl rfl) rfl) (blk_by (own := [("k", 3)]) (by kernel_rfl)) (fun s0 H0 C0 cl0 fp0 => (pg_name hN rfl (by first | exact .inl rfl | exact .inr rfl) (by first | exact .inl rfl | exact .inr rfl))) (fun s0 H0 C0 cl0 fp0 => (pts1 (PW.pt (ew_or (et_isN (EE.toB (ee_ixS hr.u1 (eb_var rfl (by first | exact .inl rfl | exact .inr (.inl rfl) | exact .inr (.inr rfl)) d1_gaps d2_gaps) (ee_var rfl (by first | exact .inl rfl | exact .inr (.inl rfl) | exact .inr (.inr rfl)) d1_k d2_k) (fun _ _ => rfl)))) (ew_or1 (et_cmp op_gtDD (EE.toB (ee_ixS hr.u1 (eb_var rfl (by first | exact .inl rfl | exact .inr (.inl rfl) | exact .inr (.inr rfl)) d1_gaps d2_gaps) (ee_var rfl (by first | exact .inl rfl | exact .inr (.inl rfl) | exact .inr (.inr rfl)) d1_k d2_k) (fun _ _ => rfl))) (EE.toB (ee_ixS hr.u1 (EE.toB (ee_ixS hr.u1 (eb_var rfl (by first | exact .inl rfl | exact .inr (.inl rfl) | exact .inr (.inr rfl)) d1_house d2_house) (ee_var rfl (by first | exact .inl rfl | exact .inr (.inl rfl) | exact .inr (.inr rfl)) d1_k d2_k) (fun _ _ => rfl))) ee_int (fun _ _ => rfl))) rfl)))))) (fun s0 H0 C0 cl0 fp0 => (ee_var rfl (by first | exact .inl rfl | exact .inr (.inl rfl) | exact .inr (.inr rfl)) d1_k d2_k)) (fun _ => rfl) (by decide)))) (EE.toB (ee_lst ea_nil)) rfl))
  sb_nil)))
theorem ok__law_keeps_round_2 {B : Bd} (g : G B) : Fn B "_law_keeps_round" 3 2 sem__law_keeps_round [] := by
  obtain ⟨f, fd, h1, F⟩ := g.f__law_keeps_round
  have bT := F.bindsN (ps := ["house", "row"]) fun _ _ _ _ _ _ us hl => match us, hl with | [_, _], _ => rfl
  exact ⟨⟨f, fd, ["house", "row"], [], [], h1, F.kp, fn_ok F sc__law_keeps_round fun cdv A outer s H E hr => ss__law_keeps_round g hr, bT, .nil, fun _ _ => .nil⟩⟩
theorem sc__law_ages : FnScope ["well", "house", "place", "limit"] ["well", "house"] (defScope (top 65)) := fsc_by (by decide +kernel)
theorem ss__law_ages {B : Bd} (g : G B) {f : Addr} {cdv : Value} {A : Around} {outer : List Env} {s : Shared} {H : Hp} {E : XK} (hr : Room 1 (A.deeper (envOfC "_law_ages" (defScope (top 65)) s.heap.objs.size f cdv))) :
    SB (cxOf (L2.CX B.P B.w) B.P B.w B.K B.mg B.base ["well", "house", "place", "limit"] "_law_ages" (defScope (top 65)) f cdv A outer s H E) B.T (fun cls dd _ H => E cls dd H) (defBody (top 65)) m__law_ages := by
  have tk : Takes (cxOf (L2.CX B.P B.w) B.P B.w B.K B.mg B.base ["well", "house", "place", "limit"] "_law_ages" (defScope (top 65)) f cdv A outer s H E) (fun cls dd _ H => E cls dd H) := takes_of rfl rfl rfl rfl
  have hp : PassesOwn (model B.P B.w) (A.deeper (envOfC "_law_ages" (defScope (top 65)) s.heap.objs.size f cdv)) (envOfC "_law_ages" (defScope (top 65)) s.heap.objs.size f cdv) (cxOf (L2.CX B.P B.w) B.P B.w B.K B.mg B.base ["well", "house", "place", "limit"] "_law_ages" (defScope (top 65)) f cdv A outer s H E).xe := passes_of rfl
  have hN : (["well", "house", "place", "limit"] : List Str).Nodup := sc__law_ages.nd
  exact (sb_cons (ss_ret (ee_callTy cd_tuple (by rfl) g.n_tuple (by decide +kernel) (eab_cons (EE.toB (en_ee (ee_comp rfl hN (ie_val (ee_var rfl (by first | exact .inl rfl | exact .inr (.inl rfl) | exact .inr (.inr rfl)) d1_house d2_house)) (blk_by (own := [("place", 2), ("limit", 3)]) (by kernel_rfl)) (fun s0 H0 C0 cl0 fp0 => (pg_tup rfl (pgs_cons (pg_name hN rfl (by first | exact .inl rfl | exact .inr rfl) (by first | exact .inl rfl | exact .inr rfl)) (pgs_cons (pg_name hN rfl (by first | exact .inl rfl | exact .inr rfl) (by first | exact .inl rfl | exact .inr rfl)) pgs_nil)))) (fun s0 H0 C0 cl0 fp0 => pts0) (fun s0 H0 C0 cl0 fp0 => (ee_fn (ok__law_draw_2 g) (hr.mono (by decide)) tk_blk rfl rfl (ln_cons (ln_cons ln_nil)) (ex_of (ea_cons (ee_var rfl (by first | exact .inl rfl | exact .inr (.inl rfl) | exact .inr (.inr rfl)) d1_well d2_well) (ea_cons (ee_var rfl (by first | exact .inl rfl | exact .inr (.inl rfl) | exact .inr (.inr rfl)) d1_limit d2_limit) ea_nil rfl) rfl)) d1__law_draw rfl rfl)) (fun _ => rfl) (by decide)))) eab_nil rfl) (by decide +kernel) d1_tuple rfl rfl))
  sb_nil)
theorem ok__law_ages_2 {B : Bd} (g : G B) : Fn B "_law_ages" 2 2 sem__law_ages [] := by
  obtain ⟨f, fd, h1, F⟩ := g.f__law_ages
  have bT := F.bindsN (ps := ["well", "house"]) fun _ _ _ _ _ _ us hl => match us, hl with | [_, _], _ => rfl
  exact ⟨⟨f, fd, ["well", "house"], [], [], h1, F.kp, fn_ok F sc__law_ages fun cdv A outer s H E hr => ss__law_ages g hr, bT, .nil, fun _ _ => .nil⟩⟩
theorem sc__law_rule_look : FnScope ["house", "ages", "way", "best", "k", "place", "limit", "worth"] ["house", "ages", "way"] (defScope (top 66)) := fsc_by (by decide +kernel)
theorem ss__law_rule_look {B : Bd} (g : G B) {f : Addr} {cdv : Value} {A : Around} {outer : List Env} {s : Shared} {H : Hp} {E : XK} (hr : Room 0 (A.deeper (envOfC "_law_rule_look" (defScope (top 66)) s.heap.objs.size f cdv))) :
    SB (cxOf (L2.CX B.P B.w) B.P B.w B.K B.mg B.base ["house", "ages", "way", "best", "k", "place", "limit", "worth"] "_law_rule_look" (defScope (top 66)) f cdv A outer s H E) B.T (fun cls dd _ H => E cls dd H) (defBody (top 66)) m__law_rule_look := by
  have tk : Takes (cxOf (L2.CX B.P B.w) B.P B.w B.K B.mg B.base ["house", "ages", "way", "best", "k", "place", "limit", "worth"] "_law_rule_look" (defScope (top 66)) f cdv A outer s H E) (fun cls dd _ H => E cls dd H) := takes_of rfl rfl rfl rfl
  have hp : PassesOwn (model B.P B.w) (A.deeper (envOfC "_law_rule_look" (defScope (top 66)) s.heap.objs.size f cdv)) (envOfC "_law_rule_look" (defScope (top 66)) s.heap.objs.size f cdv) (cxOf (L2.CX B.P B.w) B.P B.w B.K B.mg B.base ["house", "ages", "way", "best", "k", "place", "limit", "worth"] "_law_rule_look" (defScope (top 66)) f cdv A outer s H E).xe := passes_of rfl
  have hN : (["house", "ages", "way", "best", "k", "place", "limit", "worth"] : List Str).Nodup := sc__law_rule_look.nd
  exact (sb_cons (ss_set hN rfl (by first | exact .inl rfl | exact .inr rfl) ee_non rfl (by first | exact .inl rfl | exact .inr rfl))
  (sb_cons (ss_for hp rfl (ie_range1 (by rfl) g.n_range (ee_callB cd_len (by rfl) g.n_len (by decide +kernel) (eab_cons (eb_var rfl (by first | exact .inl rfl | exact .inr (.inl rfl) | exact .inr (.inr rfl)) d1_house d2_house) eab_nil rfl) (by decide +kernel) d1_len rfl rfl) rfl) (pg_name hN rfl (by first | exact .inl rfl | exact .inr rfl) (by first | exact .inl rfl | exact .inr rfl)) (sb_cons (ss_setT (ee_ixS hr.u1 (eb_var rfl (by first | exact .inl rfl | exact .inr (.inl rfl) | exact .inr (.inr rfl)) d1_house d2_house) (ee_var rfl (by first | exact .inl rfl | exact .inr (.inl rfl) | exact .inr (.inr rfl)) d1_k d2_k) (fun _ _ => rfl)) (pg_tup rfl (pgs_cons (pg_name hN rfl (by first | exact .inl rfl | exact .inr rfl) (by first | exact .inl rfl | exact .inr rfl)) (pgs_cons (pg_name hN rfl (by first | exact .inl rfl | exact .inr rfl) (by first | exact .inl rfl | exact .inr rfl)) pgs_nil))) rfl rfl rfl)
  (sb_cons (ss_set hN rfl (by first | exact .inl rfl | exact .inr rfl) (ee_if (et_cmp (op_eqDD hr.units) (eb_var rfl (by first | exact .inl rfl | exact .inr (.inl rfl) | exact .inr (.inr rfl)) d1_way d2_way) (EE.toB (ee_str (okS_lit (by decide +kernel)))) rfl) (ee_tup (ea_cons (ee_op2 op_addD (ee_ixS hr.u1 (eb_var rfl (by first | exact .inl rfl | exact .inr (.inl rfl) | exact .inr (.inr rfl)) d1_ages d2_ages) (ee_var rfl (by first | exact .inl rfl | exact .inr (.inl rfl) | exact .inr (.inr rfl)) d1_k d2_k) (fun _ _ => rfl)) ee_int) (ea_cons (ee_var rfl (by first | exact .inl rfl | exact .inr (.inl rfl) | exact .inr (.inr rfl)) d1_limit d2_limit) ea_nil rfl) rfl)) (ee_if (et_cmp (op_eqDD hr.units) (eb_var rfl (by first | exact .inl rfl | exact .inr (.inl rfl) | exact .inr (.inr rfl)) d1_way d2_way) (EE.toB (ee_str (okS_lit (by decide +kernel)))) rfl) (ee_tup (ea_cons (ee_ixS hr.u1 (eb_var rfl (by first | exact .inl rfl | exact .inr (.inl rfl) | exact .inr (.inr rfl)) d1_ages d2_ages) (ee_var rfl (by first | exact .inl rfl | exact .inr (.inl rfl) | exact .inr (.inr rfl)) d1_k d2_k) (fun _ _ => rfl)) (ea_cons ee_int ea_nil rfl) rfl)) (ee_tup (ea_cons (ee_op2 op_subD (ee_ixS hr.u1 (eb_var rfl (by first | exact .inl rfl | exact .inr (.inl rfl) | exact .inr (.inr rfl)) d1_ages d2_ages) (ee_var rfl (by first | exact .inl rfl | exact .inr (.inl rfl) | exact .inr (.inr rfl)) d1_k d2_k) (fun _ _ => rfl)) (ee_var rfl (by first | exact .inl rfl | exact .inr (.inl rfl) | exact .inr (.inr rfl)) d1_limit d2_limit)) (ea_cons ee_int ea_nil rfl) rfl)))) rfl (by first | exact .inl rfl | exact .inr rfl))
  (sb_cons (ss_if (PW.pt (ew_or (et_isN (eb_var rfl (by first | exact .inl rfl | exact .inr (.inl rfl) | exact .inr (.inr rfl)) d1_best d2_best)) (ew_or1 (et_cmp op_gtDD (EE.toB (ee_op2 op_mulD (ee_ixS hr.u1 (eb_var rfl (by first | exact .inl rfl | exact .inr (.inl rfl) | exact .inr (.inr rfl)) d1_worth d2_worth) ee_int (fun _ _ => rfl)) (ee_ixS hr.u1 (EE.toB (ee_ixS hr.u1 (eb_var rfl (by first | exact .inl rfl | exact .inr (.inl rfl) | exact .inr (.inr rfl)) d1_best d2_best) ee_int (fun _ _ => rfl))) ee_int (fun _ _ => rfl)))) (EE.toB (ee_op2 op_mulD (ee_ixS hr.u1 (EE.toB (ee_ixS hr.u1 (eb_var rfl (by first | exact .inl rfl | exact .inr (.inl rfl) | exact .inr (.inr rfl)) d1_best d2_best) ee_int (fun _ _ => rfl))) ee_int (fun _ _ => rfl)) (ee_ixS hr.u1 (eb_var rfl (by first | exact .inl rfl | exact .inr (.inl rfl) | exact .inr (.inr rfl)) d1_worth d2_worth) ee_int (fun _ _ => rfl)))) rfl)))) (sb_cons (ss_set hN rfl (by first | exact .inl rfl | exact .inr rfl) (ee_tup (ea_cons (ee_var rfl (by first | exact .inl rfl | exact .inr (.inl rfl) | exact .inr (.inr rfl)) d1_place d2_place) (ea_cons (ee_var rfl (by first | exact .inl rfl | exact .inr (.inl rfl) | exact .inr (.inr rfl)) d1_worth d2_worth) ea_nil rfl) rfl)) rfl (by first | exact .inl rfl | exact .inr rfl))
  sb_nil) sb_nil)
  sb_nil))) (fun _ => rfl))
  (sb_cons (ss_ret (ee_ixS hr.u1 (eb_var rfl (by first | exact .inl rfl | exact .inr (.inl rfl) | exact .inr (.inr rfl)) d1_best d2_best) ee_int (fun _ _ => rfl)))
  sb_nil)))
theorem ok__law_rule_look_3 {B : Bd} (g : G B) : Fn B "_law_rule_look" 1 3 sem__law_rule_look [] := by
  obtain ⟨f, fd, h1, F⟩ := g.f__law_rule_look
  have bT := F.bindsN (ps := ["house", "ages", "way"]) fun _ _ _ _ _ _ us hl => match us, hl with | [_, _, _], _ => rfl
  exact ⟨⟨f, fd, ["house", "ages", "way"], [], [], h1, F.kp, fn_ok F sc__law_rule_look fun cdv A outer s H E hr => ss__law_rule_look g hr, bT, .nil, fun _ _ => .nil⟩⟩
theorem sc__law_led : FnScope ["house", "ages", "way", "seen", "row", "lap", "look"] ["house", "ages", "way"] (defScope (top 67)) := fsc_by (by decide +kernel)
theorem ss__law_led {B : Bd} (g : G B) {f : Addr} {cdv : Value} {A : Around} {outer : List Env} {s : Shared} {H : Hp} {E : XK} (hr : Room 1 (A.deeper (envOfC "_law_led" (defScope (top 67)) s.heap.objs.size f cdv))) :
    SB (cxOf (L2.CX B.P B.w) B.P B.w B.K B.mg B.base ["house", "ages", "way", "seen", "row", "lap", "look"] "_law_led" (defScope (top 67)) f cdv A outer s H E) B.T (fun cls dd _ H => E cls dd H) (defBody (top 67)) m__law_led := by
  have tk : Takes (cxOf (L2.CX B.P B.w) B.P B.w B.K B.mg B.base ["house", "ages", "way", "seen", "row", "lap", "look"] "_law_led" (defScope (top 67)) f cdv A outer s H E) (fun cls dd _ H => E cls dd H) := takes_of rfl rfl rfl rfl
  have hp : PassesOwn (model B.P B.w) (A.deeper (envOfC "_law_led" (defScope (top 67)) s.heap.objs.size f cdv)) (envOfC "_law_led" (defScope (top 67)) s.heap.objs.size f cdv) (cxOf (L2.CX B.P B.w) B.P B.w B.K B.mg B.base ["house", "ages", "way", "seen", "row", "lap", "look"] "_law_led" (defScope (top 67)) f cdv A outer s H E).xe := passes_of rfl
  have hN : (["house", "ages", "way", "seen", "row", "lap", "look"] : List Str).Nodup := sc__law_led.nd
  exact (sb_cons (ss_par2 rfl hN rfl rfl (by decide) rfl rfl (es_own eo_dct0 (es_val (ee_tup ea_nil) es_nil rfl) rfl) rfl rfl)
  (sb_cons (ss_for hp rfl (ie_range1 (by rfl) g.n_range ee_int rfl) (pg_name hN rfl (by first | exact .inl rfl | exact .inr rfl) (by first | exact .inl rfl | exact .inr rfl)) (sb_cons (ss_if (et_mem (op_mem hr.u65 false) (ee_var rfl (by first | exact .inl rfl | exact .inr (.inl rfl) | exact .inr (.inr rfl)) d1_ages d2_ages) (eb_var rfl (by first | exact .inl rfl | exact .inr (.inl rfl) | exact .inr (.inr rfl)) d1_seen d2_seen) rfl) (sb_cons (ss_ret (ee_tup (ea_cons ee_non (ea_cons (ee_sl (ee_var rfl (by first | exact .inl rfl | exact .inr (.inl rfl) | exact .inr (.inr rfl)) d1_row d2_row) (eo_some (ee_ixS hr.u1 (eb_var rfl (by first | exact .inl rfl | exact .inr (.inl rfl) | exact .inr (.inr rfl)) d1_seen d2_seen) (ee_var rfl (by first | exact .inl rfl | exact .inr (.inl rfl) | exact .inr (.inr rfl)) d1_ages d2_ages) (fun _ _ => rfl))) eo_none) ea_nil rfl) rfl)))
  sb_nil) sb_nil)
  (sb_cons (ss_put hr.u1 rfl (by first | exact .inl rfl | exact .inr (.inl rfl) | exact .inr (.inr rfl)) d1_seen d2_seen (ee_callB cd_len (by rfl) g.n_len (by decide +kernel) (eab_cons (eb_var rfl (by first | exact .inl rfl | exact .inr (.inl rfl) | exact .inr (.inr rfl)) d1_row d2_row) eab_nil rfl) (by decide +kernel) d1_len rfl rfl) (ee_var rfl (by first | exact .inl rfl | exact .inr (.inl rfl) | exact .inr (.inr rfl)) d1_ages d2_ages) rfl rfl rfl (fun _ => rfl))
  (sb_cons (ss_set hN rfl (by first | exact .inl rfl | exact .inr rfl) (ee_fn (ok__law_rule_look_3 g) (hr.mono (by decide)) tk rfl rfl (ln_cons (ln_cons (ln_cons ln_nil))) (ex_of (ea_cons (ee_var rfl (by first | exact .inl rfl | exact .inr (.inl rfl) | exact .inr (.inr rfl)) d1_house d2_house) (ea_cons (ee_var rfl (by first | exact .inl rfl | exact .inr (.inl rfl) | exact .inr (.inr rfl)) d1_ages d2_ages) (ea_cons (ee_var rfl (by first | exact .inl rfl | exact .inr (.inl rfl) | exact .inr (.inr rfl)) d1_way d2_way) ea_nil rfl) rfl) rfl)) d1__law_rule_look rfl rfl) rfl (by first | exact .inl rfl | exact .inr rfl))
  (sb_cons (ss_par2 rfl hN rfl rfl (by decide) rfl rfl (es_val (ee_fn (ok__law_behind_3 g) (hr.mono (by decide)) tk rfl rfl (ln_cons (ln_cons (ln_cons ln_nil))) (ex_of (ea_cons (ee_var rfl (by first | exact .inl rfl | exact .inr (.inl rfl) | exact .inr (.inr rfl)) d1_house d2_house) (ea_cons (ee_var rfl (by first | exact .inl rfl | exact .inr (.inl rfl) | exact .inr (.inr rfl)) d1_ages d2_ages) (ea_cons (ee_var rfl (by first | exact .inl rfl | exact .inr (.inl rfl) | exact .inr (.inr rfl)) d1_look d2_look) ea_nil rfl) rfl) rfl)) d1__law_behind rfl rfl) (es_val (ee_op2 op_addD (ee_var rfl (by first | exact .inl rfl | exact .inr (.inl rfl) | exact .inr (.inr rfl)) d1_row d2_row) (ee_tup (ea_cons (ee_var rfl (by first | exact .inl rfl | exact .inr (.inl rfl) | exact .inr (.inr rfl)) d1_look d2_look) ea_nil rfl))) es_nil rfl) rfl) rfl rfl)
  (sb_cons (ss_if (et_isN (eb_var rfl (by first | exact .inl rfl | exact .inr (.inl rfl) | exact .inr (.inr rfl)) d1_ages d2_ages)) (sb_cons (ss_ret (ee_tup (ea_cons (ee_callB cd_len (by rfl) g.n_len (by decide +kernel) (eab_cons (eb_var rfl (by first | exact .inl rfl | exact .inr (.inl rfl) | exact .inr (.inr rfl)) d1_row d2_row) eab_nil rfl) (by decide +kernel) d1_len rfl rfl) (ea_cons ee_non ea_nil rfl) rfl)))
  sb_nil) sb_nil)
  sb_nil))))) (fun _ => rfl))
  (sb_cons (ss_ret (ee_tup (ea_cons ee_non (ea_cons ee_non ea_nil rfl) rfl)))
  sb_nil)))
theorem ok__law_led_3 {B : Bd} (g : G B) : Fn B "_law_led" 2 3 sem__law_led [] := by
  obtain ⟨f, fd, h1, F⟩ := g.f__law_led
  have bT := F.bindsN (ps := ["house", "ages", "way"]) fun _ _ _ _ _ _ us hl => match us, hl with | [_, _, _], _ => rfl
  exact ⟨⟨f, fd, ["house", "ages", "way"], [], [], h1, F.kp, fn_ok F sc__law_led fun cdv A outer s H E hr => ss__law_led g hr, bT, .nil, fun _ _ => .nil⟩⟩
theorem sc__law_right : FnScope ["well", "house", "way", "safe", "ages", "kept", "look", "many", "row"] ["well"] (defScope (top 68)) := fsc_by (by decide +kernel)
theorem ss__law_right {B : Bd} (g : G B) {f : Addr} {cdv : Value} {A : Around} {outer : List Env} {s : Shared} {H : Hp} {E : XK} (hr : Room 8 (A.deeper (envOfC "_law_right" (defScope (top 68)) s.heap.objs.size f cdv))) :
    SB (cxOf (L2.CX B.P B.w) B.P B.w B.K B.mg B.base ["well", "house", "way", "safe", "ages", "kept", "look", "many", "row"] "_law_right" (defScope (top 68)) f cdv A outer s H E) B.T (fun cls dd _ H => E cls dd H) (defBody (top 68)) m__law_right := by
  have tk : Takes (cxOf (L2.CX B.P B.w) B.P B.w B.K B.mg B.base ["well", "house", "way", "safe", "ages", "kept", "look", "many", "row"] "_law_right" (defScope (top 68)) f cdv A outer s H E) (fun cls dd _ H => E cls dd H) := takes_of rfl rfl rfl rfl
  have hp : PassesOwn (model B.P B.w) (A.deeper (envOfC "_law_right" (defScope (top 68)) s.heap.objs.size f cdv)) (envOfC "_law_right" (defScope (top 68)) s.heap.objs.size f cdv) (cxOf (L2.CX B.P B.w) B.P B.w B.K B.mg B.base ["well", "house", "way", "safe", "ages", "kept", "look", "many", "row"] "_law_right" (defScope (top 68)) f cdv A outer s H E).xe := passes_of rfl
  have hN : (["well", "house", "way", "safe", "ages", "kept", "look", "many", "row"] : List Str).Nodup := sc__law_right.nd
  exact (sb_cons (ss_setT (ee_tup (ea_cons (ee_fn (ok__law_house_3 g) (hr.mono (by decide)) tk rfl rfl (ln_cons (ln_cons (ln_cons ln_nil))) (ex_of (ea_cons (ee_var rfl (by first | exact .inl rfl | exact .inr (.inl rfl) | exact .inr (.inr rfl)) d1_well d2_well) (ea_cons ee_int (ea_cons ee_int ea_nil rfl) rfl) rfl)) d1__law_house rfl rfl) (ea_cons (ee_fn (ok__law_of_2 g) (hr.mono (by decide)) tk rfl rfl (ln_cons (ln_cons ln_nil)) (ex_of (ea_cons (ee_var rfl (by first | exact .inl rfl | exact .inr (.inl rfl) | exact .inr (.inr rfl)) d1_well d2_well) (ea_cons (ee_tup (ea_cons (ee_str (okS_lit (by decide +kernel))) (ea_cons (ee_str (okS_lit (by decide +kernel))) (ea_cons (ee_str (okS_lit (by decide +kernel))) ea_nil rfl) rfl) rfl)) ea_nil rfl) rfl)) d1__law_of rfl rfl) ea_nil rfl) rfl)) (pg_tup rfl (pgs_cons (pg_name hN rfl (by first | exact .inl rfl | exact .inr rfl) (by first | exact .inl rfl | exact .inr rfl)) (pgs_cons (pg_name hN rfl (by first | exact .inl rfl | exact .inr rfl) (by first | exact .inl rfl | exact .inr rfl)) pgs_nil))) rfl rfl rfl)
  (sb_cons (ss_set hN rfl (by first | exact .inl rfl | exact .inr rfl) (ee_fn (ok__law_safe_1 g) (hr.mono (by decide)) tk rfl rfl (ln_cons ln_nil) (ex_of (ea_cons (ee_var rfl (by first | exact .inl rfl | exact .inr (.inl rfl) | exact .inr (.inr rfl)) d1_house d2_house) ea_nil rfl)) d1__law_safe rfl rfl) rfl (by first | exact .inl rfl | exact .inr rfl))
  (sb_cons (ss_for hp rfl (ie_val (ee_tup (ea_cons (ee_fn (ok__law_nothing_1 g) (hr.mono (by decide)) tk rfl rfl (ln_cons ln_nil) (ex_of (ea_cons (ee_var rfl (by first | exact .inl rfl | exact .inr (.inl rfl) | exact .inr (.inr rfl)) d1_house d2_house) ea_nil rfl)) d1__law_nothing rfl rfl) (ea_cons (ee_fn (ok__law_ages_2 g) (hr.mono (by decide)) tk rfl rfl (ln_cons (ln_cons ln_nil)) (ex_of (ea_cons (ee_var rfl (by first | exact .inl rfl | exact .inr (.inl rfl) | exact .inr (.inr rfl)) d1_well d2_well) (ea_cons (ee_var rfl (by first | exact .inl rfl | exact .inr (.inl rfl) | exact .inr (.inr rfl)) d1_house d2_house) ea_nil rfl) rfl)) d1__law_ages rfl rfl) (ea_cons (ee_fn (ok__law_ages_2 g) (hr.mono (by decide)) tk rfl rfl (ln_cons (ln_cons ln_nil)) (ex_of (ea_cons (ee_var rfl (by first | exact .inl rfl | exact .inr (.inl rfl) | exact .inr (.inr rfl)) d1_well d2_well) (ea_cons (ee_var rfl (by first | exact .inl rfl | exact .inr (.inl rfl) | exact .inr (.inr rfl)) d1_house d2_house) ea_nil rfl) rfl)) d1__law_ages rfl rfl) ea_nil rfl) rfl) rfl))) (pg_name hN rfl (by first | exact .inl rfl | exact .inr rfl) (by first | exact .inl rfl | exact .inr rfl)) (sb_cons (ss_set hN rfl (by first | exact .inl rfl | exact .inr rfl) (ee_fn (ok__law_rule_look_3 g) (hr.mono (by decide)) tk rfl rfl (ln_cons (ln_cons (ln_cons ln_nil))) (ex_of (ea_cons (ee_var rfl (by first | exact .inl rfl | exact .inr (.inl rfl) | exact .inr (.inr rfl)) d1_house d2_house) (ea_cons (ee_var rfl (by first | exact .inl rfl | exact .inr (.inl rfl) | exact .inr (.inr rfl)) d1_ages d2_ages) (ea_cons (ee_var rfl (by first | exact .inl rfl | exact .inr (.inl rfl) | exact .inr (.inr rfl)) d1_way d2_way) ea_nil rfl) rfl) rfl)) d1__law_rule_look rfl rfl) rfl (by first | exact .inl rfl | exact .inr rfl))
  (sb_cons (ss_if (et_cmp (op_neDD hr.units) (EE.toB (ee_lst (ea_cons (ee_fn (ok_rule_look_3 g) (hr.mono (by decide)) tk rfl rfl (ln_cons (ln_cons (ln_cons ln_nil))) (ex_of (ea_cons (ee_var rfl (by first | exact .inl rfl | exact .inr (.inl rfl) | exact .inr (.inr rfl)) d1_house d2_house) (ea_cons (ee_var rfl (by first | exact .inl rfl | exact .inr (.inl rfl) | exact .inr (.inr rfl)) d1_ages d2_ages) (ea_cons (ee_var rfl (by first | exact .inl rfl | exact .inr (.inl rfl) | exact .inr (.inr rfl)) d1_way d2_way) ea_nil rfl) rfl) rfl)) d1_rule_look rfl rfl) (ea_cons (ee_fnK (kw_rule_look_2 g) (hr.mono (by decide)) tk rfl (ln_cons (ln_cons ln_nil)) (ln_cons ln_nil) (ea_cons (ee_var rfl (by first | exact .inl rfl | exact .inr (.inl rfl) | exact .inr (.inr rfl)) d1_house d2_house) (ea_cons (ee_var rfl (by first | exact .inl rfl | exact .inr (.inl rfl) | exact .inr (.inr rfl)) d1_ages d2_ages) ea_nil rfl) rfl) (ek_cons (ee_var rfl (by first | exact .inl rfl | exact .inr (.inl rfl) | exact .inr (.inr rfl)) d1_way d2_way) ek_nil) rfl rfl d1_rule_look rfl rfl) ea_nil rfl) rfl))) (EE.toB (ee_lst (ea_cons (ee_var rfl (by first | exact .inl rfl | exact .inr (.inl rfl) | exact .inr (.inr rfl)) d1_look d2_look) (ea_cons (ee_var rfl (by first | exact .inl rfl | exact .inr (.inl rfl) | exact .inr (.inr rfl)) d1_look d2_look) ea_nil rfl) rfl))) rfl) (sb_cons (ss_ret ee_bl)
  sb_nil) sb_nil)
  (sb_cons (ss_setT (ee_fn (ok__law_led_3 g) (hr.mono (by decide)) tk rfl rfl (ln_cons (ln_cons (ln_cons ln_nil))) (ex_of (ea_cons (ee_var rfl (by first | exact .inl rfl | exact .inr (.inl rfl) | exact .inr (.inr rfl)) d1_house d2_house) (ea_cons (ee_var rfl (by first | exact .inl rfl | exact .inr (.inl rfl) | exact .inr (.inr rfl)) d1_ages d2_ages) (ea_cons (ee_var rfl (by first | exact .inl rfl | exact .inr (.inl rfl) | exact .inr (.inr rfl)) d1_way d2_way) ea_nil rfl) rfl) rfl)) d1__law_led rfl rfl) (pg_tup rfl (pgs_cons (pg_name hN rfl (by first | exact .inl rfl | exact .inr rfl) (by first | exact .inl rfl | exact .inr rfl)) (pgs_cons (pg_name hN rfl (by first | exact .inl rfl | exact .inr rfl) (by first | exact .inl rfl | exact .inr rfl)) pgs_nil))) rfl rfl rfl)
  (sb_cons (ss_if (PW.pt (ew_and (et_isN (eb_var rfl (by first | exact .inl rfl | exact .inr (.inl rfl) | exact .inr (.inr rfl)) d1_many d2_many)) (ew_and1 (et_mem (op_mem hr.u65 true) (ee_var rfl (by first | exact .inl rfl | exact .inr (.inl rfl) | exact .inr (.inr rfl)) d1_ages d2_ages) (eb_var rfl (by first | exact .inl rfl | exact .inr (.inl rfl) | exact .inr (.inr rfl)) d1_safe d2_safe) rfl)))) (sb_cons (ss_ret ee_bl)
  sb_nil) sb_nil)
  (sb_cons (ss_if (et_not (et_truth (EE.toB (ee_fn (ok__law_same_2 g) (hr.mono (by decide)) tk rfl rfl (ln_cons (ln_cons ln_nil)) (ex_of (ea_cons (ee_tup (ea_cons (ee_fn (ok_breaks_by_3 g) (hr.mono (by decide)) tk rfl rfl (ln_cons (ln_cons (ln_cons ln_nil))) (ex_of (ea_cons (ee_var rfl (by first | exact .inl rfl | exact .inr (.inl rfl) | exact .inr (.inr rfl)) d1_house d2_house) (ea_cons (ee_var rfl (by first | exact .inl rfl | exact .inr (.inl rfl) | exact .inr (.inr rfl)) d1_ages d2_ages) (ea_cons (ee_var rfl (by first | exact .inl rfl | exact .inr (.inl rfl) | exact .inr (.inr rfl)) d1_way d2_way) ea_nil rfl) rfl) rfl)) d1_breaks_by rfl rfl) (ea_cons (ee_fnK (kw_breaks_by_2 g) (hr.mono (by decide)) tk rfl (ln_cons (ln_cons ln_nil)) (ln_cons ln_nil) (ea_cons (ee_var rfl (by first | exact .inl rfl | exact .inr (.inl rfl) | exact .inr (.inr rfl)) d1_house d2_house) (ea_cons (ee_var rfl (by first | exact .inl rfl | exact .inr (.inl rfl) | exact .inr (.inr rfl)) d1_ages d2_ages) ea_nil rfl) rfl) (ek_cons (ee_var rfl (by first | exact .inl rfl | exact .inr (.inl rfl) | exact .inr (.inr rfl)) d1_way d2_way) ek_nil) rfl rfl d1_breaks_by rfl rfl) ea_nil rfl) rfl)) (ea_cons (ee_tup (ea_cons (ee_var rfl (by first | exact .inl rfl | exact .inr (.inl rfl) | exact .inr (.inr rfl)) d1_many d2_many) (ea_cons (ee_var rfl (by first | exact .inl rfl | exact .inr (.inl rfl) | exact .inr (.inr rfl)) d1_many d2_many) ea_nil rfl) rfl)) ea_nil rfl) rfl)) d1__law_same rfl rfl)) (fun _ => rfl))) (sb_cons (ss_ret ee_bl)
  sb_nil) sb_nil)
  (sb_cons (ss_if (et_not (et_truth (EE.toB (ee_fn (ok__law_same_2 g) (hr.mono (by decide)) tk rfl rfl (ln_cons (ln_cons ln_nil)) (ex_of (ea_cons (ee_tup (ea_cons (ee_fn (ok_rule_ring_3 g) (hr.mono (by decide)) tk rfl rfl (ln_cons (ln_cons (ln_cons ln_nil))) (ex_of (ea_cons (ee_var rfl (by first | exact .inl rfl | exact .inr (.inl rfl) | exact .inr (.inr rfl)) d1_house d2_house) (ea_cons (ee_var rfl (by first | exact .inl rfl | exact .inr (.inl rfl) | exact .inr (.inr rfl)) d1_ages d2_ages) (ea_cons (ee_var rfl (by first | exact .inl rfl | exact .inr (.inl rfl) | exact .inr (.inr rfl)) d1_way d2_way) ea_nil rfl) rfl) rfl)) d1_rule_ring rfl rfl) (ea_cons (ee_fnK (kw_rule_ring_2 g) (hr.mono (by decide)) tk rfl (ln_cons (ln_cons ln_nil)) (ln_cons ln_nil) (ea_cons (ee_var rfl (by first | exact .inl rfl | exact .inr (.inl rfl) | exact .inr (.inr rfl)) d1_house d2_house) (ea_cons (ee_var rfl (by first | exact .inl rfl | exact .inr (.inl rfl) | exact .inr (.inr rfl)) d1_ages d2_ages) ea_nil rfl) rfl) (ek_cons (ee_var rfl (by first | exact .inl rfl | exact .inr (.inl rfl) | exact .inr (.inr rfl)) d1_way d2_way) ek_nil) rfl rfl d1_rule_ring rfl rfl) ea_nil rfl) rfl)) (ea_cons (ee_tup (ea_cons (ee_var rfl (by first | exact .inl rfl | exact .inr (.inl rfl) | exact .inr (.inr rfl)) d1_row d2_row) (ea_cons (ee_var rfl (by first | exact .inl rfl | exact .inr (.inl rfl) | exact .inr (.inr rfl)) d1_row d2_row) ea_nil rfl) rfl)) ea_nil rfl) rfl)) d1__law_same rfl rfl)) (fun _ => rfl))) (sb_cons (ss_ret ee_bl)
  sb_nil) sb_nil)
  (sb_cons (ss_if (PW.pt (ew_and (et_notN (eb_var rfl (by first | exact .inl rfl | exact .inr (.inl rfl) | exact .inr (.inr rfl)) d1_row d2_row)) (ew_and1 (et_not (et_truth (EE.toB (ee_fn (ok__law_keeps_round_2 g) (hr.mono (by decide)) tk rfl rfl (ln_cons (ln_cons ln_nil)) (ex_of (ea_cons (ee_var rfl (by first | exact .inl rfl | exact .inr (.inl rfl) | exact .inr (.inr rfl)) d1_house d2_house) (ea_cons (ee_var rfl (by first | exact .inl rfl | exact .inr (.inl rfl) | exact .inr (.inr rfl)) d1_row d2_row) ea_nil rfl) rfl)) d1__law_keeps_round rfl rfl)) (fun _ => rfl)))))) (sb_cons (ss_ret ee_bl)
  sb_nil) sb_nil)
  sb_nil))))))) (fun _ => rfl))
  (sb_cons (ss_set hN rfl (by first | exact .inl rfl | exact .inr rfl) (ee_callB cd_len (by rfl) g.n_len (by decide +kernel) (eab_cons (EE.toB (en_ee (ee_comp rfl hN (ie_val (ee_fn (ok__law_all_ages_1 g) (hr.mono (by decide)) tk rfl rfl (ln_cons ln_nil) (ex_of (ea_cons (ee_var rfl (by first | exact .inl rfl | exact .inr (.inl rfl) | exact .inr (.inr rfl)) d1_house d2_house) ea_nil rfl)) d1__law_all_ages rfl rfl)) (blk_by (own := [("ages", 4)]) (by kernel_rfl)) (fun s0 H0 C0 cl0 fp0 => (pg_name hN rfl (by first | exact .inl rfl | exact .inr rfl) (by first | exact .inl rfl | exact .inr rfl))) (fun s0 H0 C0 cl0 fp0 => (pts1 (et_isN (EE.toB (ee_ixS hr.u1 (EE.toB (ee_fn (ok__law_led_3 g) (hr.mono (by decide)) tk_blk rfl rfl (ln_cons (ln_cons (ln_cons ln_nil))) (ex_of (ea_cons (ee_var rfl (by first | exact .inl rfl | exact .inr (.inl rfl) | exact .inr (.inr rfl)) d1_house d2_house) (ea_cons (ee_var rfl (by first | exact .inl rfl | exact .inr (.inl rfl) | exact .inr (.inr rfl)) d1_ages d2_ages) (ea_cons (ee_var rfl (by first | exact .inl rfl | exact .inr (.inl rfl) | exact .inr (.inr rfl)) d1_way d2_way) ea_nil rfl) rfl) rfl)) d1__law_led rfl rfl)) ee_int (fun _ _ => rfl)))))) (fun s0 H0 C0 cl0 fp0 => (ee_var rfl (by first | exact .inl rfl | exact .inr (.inl rfl) | exact .inr (.inr rfl)) d1_ages d2_ages)) (fun _ => rfl) (by decide)))) eab_nil rfl) (by decide +kernel) d1_len rfl rfl) rfl (by first | exact .inl rfl | exact .inr rfl))
  (sb_cons (ss_ret (ee_fn (ok__law_same_2 g) (hr.mono (by decide)) tk rfl rfl (ln_cons (ln_cons ln_nil)) (ex_of (ea_cons (ee_tup (ea_cons (ee_fn (ok_kept_by_rule_2 g) (hr.mono (by decide)) tk rfl rfl (ln_cons (ln_cons ln_nil)) (ex_of (ea_cons (ee_var rfl (by first | exact .inl rfl | exact .inr (.inl rfl) | exact .inr (.inr rfl)) d1_house d2_house) (ea_cons (ee_var rfl (by first | exact .inl rfl | exact .inr (.inl rfl) | exact .inr (.inr rfl)) d1_way d2_way) ea_nil rfl) rfl)) d1_kept_by_rule rfl rfl) (ea_cons (ee_fnK (kw_kept_by_rule_1 g) (hr.mono (by decide)) tk rfl (ln_cons ln_nil) (ln_cons ln_nil) (ea_cons (ee_var rfl (by first | exact .inl rfl | exact .inr (.inl rfl) | exact .inr (.inr rfl)) d1_house d2_house) ea_nil rfl) (ek_cons (ee_var rfl (by first | exact .inl rfl | exact .inr (.inl rfl) | exact .inr (.inr rfl)) d1_way d2_way) ek_nil) rfl rfl d1_kept_by_rule rfl rfl) ea_nil rfl) rfl)) (ea_cons (ee_tup (ea_cons (ee_var rfl (by first | exact .inl rfl | exact .inr (.inl rfl) | exact .inr (.inr rfl)) d1_kept d2_kept) (ea_cons (ee_var rfl (by first | exact .inl rfl | exact .inr (.inl rfl) | exact .inr (.inr rfl)) d1_kept d2_kept) ea_nil rfl) rfl)) ea_nil rfl) rfl)) d1__law_same rfl rfl))
  sb_nil)))))
theorem ok__law_right_1 {B : Bd} (g : G B) : Fn B "_law_right" 9 1 sem__law_right [] := by
  obtain ⟨f, fd, h1, F⟩ := g.f__law_right
  have bT := F.bindsN (ps := ["well"]) fun _ _ _ _ _ _ us hl => match us, hl with | [_], _ => rfl
  exact ⟨⟨f, fd, ["well"], [], [], h1, F.kp, fn_ok F sc__law_right fun cdv A outer s H E hr => ss__law_right g hr, bT, .nil, fun _ _ => .nil⟩⟩
theorem sc_law : FnScope ["script", "wells", "lap", "k"] ["script"] (defScope (top 69)) := fsc_by (by decide +kernel)
theorem ss_law {B : Bd} (g : G B) {f : Addr} {cdv : Value} {A : Around} {outer : List Env} {s : Shared} {H : Hp} {E : XK} (hr : Room 9 (A.deeper (envOfC "law" (defScope (top 69)) s.heap.objs.size f cdv))) :
    SB (cxOf (L2.CX B.P B.w) B.P B.w B.K B.mg B.base ["script", "wells", "lap", "k"] "law" (defScope (top 69)) f cdv A outer s H E) B.T (fun cls dd _ H => E cls dd H) (defBody (top 69)) m_law := by
  have tk : Takes (cxOf (L2.CX B.P B.w) B.P B.w B.K B.mg B.base ["script", "wells", "lap", "k"] "law" (defScope (top 69)) f cdv A outer s H E) (fun cls dd _ H => E cls dd H) := takes_of rfl rfl rfl rfl
  have hp : PassesOwn (model B.P B.w) (A.deeper (envOfC "law" (defScope (top 69)) s.heap.objs.size f cdv)) (envOfC "law" (defScope (top 69)) s.heap.objs.size f cdv) (cxOf (L2.CX B.P B.w) B.P B.w B.K B.mg B.base ["script", "wells", "lap", "k"] "law" (defScope (top 69)) f cdv A outer s H E).xe := passes_of rfl
  have hN : (["script", "wells", "lap", "k"] : List Str).Nodup := sc_law.nd
  exact (sb_cons (ss_set hN rfl (by first | exact .inl rfl | exact .inr rfl) (en_ee (ee_comp rfl hN (ie_range1 (by rfl) g.n_range ee_int rfl) (blk_by (own := [("lap", 2)]) (by kernel_rfl)) (fun s0 H0 C0 cl0 fp0 => (pg_name hN rfl (by first | exact .inl rfl | exact .inr rfl) (by first | exact .inl rfl | exact .inr rfl))) (fun s0 H0 C0 cl0 fp0 => pts0) (fun s0 H0 C0 cl0 fp0 => (ee_fn (ok__law_well_2 g) (hr.mono (by decide)) tk_blk rfl rfl (ln_cons (ln_cons ln_nil)) (ex_of (ea_cons (ee_var rfl (by first | exact .inl rfl | exact .inr (.inl rfl) | exact .inr (.inr rfl)) d1_script d2_script) (ea_cons (ee_var rfl (by first | exact .inl rfl | exact .inr (.inl rfl) | exact .inr (.inr rfl)) d1_lap d2_lap) ea_nil rfl) rfl)) d1__law_well rfl rfl)) (fun _ => rfl) (by decide))) rfl (by first | exact .inl rfl | exact .inr rfl))
  (sb_cons (ss_ret (ee_callB (cd_all rfl) (by rfl) g.n_all (by decide +kernel) (eab_cons (EE.toB (en_ee (ee_comp rfl hN (ie_range1 (by rfl) g.n_range ee_int rfl) (blk_by (own := [("k", 3)]) (by kernel_rfl)) (fun s0 H0 C0 cl0 fp0 => (pg_name hN rfl (by first | exact .inl rfl | exact .inr rfl) (by first | exact .inl rfl | exact .inr rfl))) (fun s0 H0 C0 cl0 fp0 => pts0) (fun s0 H0 C0 cl0 fp0 => (ee_fn (ok__law_right_1 g) (hr.mono (by decide)) tk_blk rfl rfl (ln_cons ln_nil) (ex_of (ea_cons (ee_ixS hr.u1 (eb_var rfl (by first | exact .inl rfl | exact .inr (.inl rfl) | exact .inr (.inr rfl)) d1_wells d2_wells) (ee_op2 op_modD (ee_callTy cd_int (by rfl) g.n_int (by decide +kernel) (eab_cons (eb_var rfl (by first | exact .inl rfl | exact .inr (.inl rfl) | exact .inr (.inr rfl)) d1_k d2_k) eab_nil rfl) (by decide +kernel) d1_int rfl rfl) ee_int) (fun _ _ => rfl)) ea_nil rfl)) d1__law_right rfl rfl)) (fun _ => rfl) (by decide)))) eab_nil rfl) (by decide +kernel) d1_all rfl rfl))
  sb_nil))
theorem ok_law_1 {B : Bd} (g : G B) : Fn B "law" 10 1 sem_law [] := by
  obtain ⟨f, fd, h1, F⟩ := g.f_law
  have bT := F.bindsN (ps := ["script"]) fun _ _ _ _ _ _ us hl => match us, hl with | [_], _ => rfl
  exact ⟨⟨f, fd, ["script"], [], [], h1, F.kp, fn_ok F sc_law fun cdv A outer s H E hr => ss_law g hr, bT, .nil, fun _ _ => .nil⟩⟩
end k76
set_option Elab.async false
set_option linter.all false
set_option maxRecDepth 100000
set_option maxHeartbeats 0
namespace k76
open PySem PySem.Spec PyProof.Rows L2 NdefX Lk
def dd (x : Str) (i : Nat) (dv : List He.Dv) : He.DefD := ⟨(x, none), x, x, defArgs (top i), defBody (top i), defScope (top i), dv, []⟩
def fn : List He.DefD := ([dd "is_whole" 9 [],
  dd "is_number" 10 [.non],
  dd "is_string" 11 [],
  dd "is_made_of" 12 [],
  dd "is_word" 13 [],
  dd "is_name" 14 [],
  dd "is_tuple_of" 15 [],
  dd "is_in" 16 [],
  dd "is_ascending" 17 [],
  dd "is_less" 18 [],
  dd "product_of" 23 [],
  dd "is_limit" 24 [],
  dd "is_pair_of_house" 25 [],
  dd "names_of" 27 [],
  dd "limits_in" 28 [],
  dd "is_house_form" 26 [],
  dd "all_below" 29 [],
  dd "all_ages" 30 [],
  dd "keep_limits" 31 [],
  dd "aged" 32 [],
  dd "ages_after" 33 [],
  dd "check_house" 35 [],
  dd "wrong_ages" 36 [],
  dd "check_ages" 37 [],
  dd "check_way" 40 [],
  dd "check_ruled" 41 [],
  dd "urge_of" 42 [],
  dd "look_by" 43 [],
  dd "led_by" 44 [],
  dd "rule_look" 45 []] : List He.DefD) ++ ([dd "breaks_by" 46 [],
  dd "rule_ring" 47 [],
  dd "kept_by_rule" 48 [],
  dd "_law_well" 50 [],
  dd "_law_draw" 51 [],
  dd "_law_of" 52 [],
  dd "_law_same" 53 [],
  dd "_law_names" 54 [],
  dd "_law_house" 55 [],
  dd "_law_places" 56 [],
  dd "_law_looks" 57 [],
  dd "_law_all_ages" 58 [],
  dd "_law_behind" 59 [],
  dd "_law_ways" 60 [],
  dd "_law_safe" 61 [],
  dd "_law_nothing" 62 [],
  dd "_law_gaps" 63 [],
  dd "_law_keeps_round" 64 [],
  dd "_law_ages" 65 [],
  dd "_law_rule_look" 66 [],
  dd "_law_led" 67 [],
  dd "_law_right" 68 [],
  dd "law" 69 []] : List He.DefD)
def fa : List He.Fa := ([.glo "is_whole", .glo "is_number", .glo "is_string", .glo "is_made_of", .glo "is_word", .glo "is_name", .glo "is_tuple_of", .glo "is_in", .glo "is_ascending", .glo "is_less", .glo "product_of", .glo "is_limit", .glo "is_pair_of_house", .glo "names_of", .glo "limits_in", .glo "is_house_form", .glo "all_below", .glo "all_ages", .glo "keep_limits", .glo "aged", .glo "ages_after", .glo "check_house", .glo "wrong_ages", .glo "check_ages", .glo "check_way", .glo "check_ruled", .glo "urge_of", .glo "look_by", .glo "led_by", .glo "rule_look"] : List He.Fa) ++ ([.glo "breaks_by", .glo "rule_ring", .glo "kept_by_rule", .glo "_law_well", .glo "_law_draw", .glo "_law_of", .glo "_law_same", .glo "_law_names", .glo "_law_house", .glo "_law_places", .glo "_law_looks", .glo "_law_all_ages", .glo "_law_behind", .glo "_law_ways", .glo "_law_safe", .glo "_law_nothing", .glo "_law_gaps", .glo "_law_keeps_round", .glo "_law_ages", .glo "_law_rule_look", .glo "_law_led", .glo "_law_right", .glo "law", .free "abs", .free "all", .free "bool", .free "divmod", .free "enumerate", .free "int", .free "isinstance"] : List He.Fa) ++ ([.free "len", .free "list", .free "max", .free "range", .free "sorted", .free "str", .free "tuple", .free "zip", .int "LONGEST_NAME" 8, .int "MOST_AGES" 600, .int "MOST_LIMIT" 60, .int "MOST_PLACES" 6, .str "SMALL_LETTERS" "abcdefghijklmnopqrstuvwxyz", .glo "WAYS", .glo "WORDS"] : List He.Fa)
def ts : List (Str × List He.Dv) := [("WAYS", [.str "room", .str "share", .str "oldest"]), ("WORDS", [.str "add", .str "ages", .str "all", .str "at", .str "away", .str "by", .str "doors", .str "due", .str "every", .str "from", .str "house", .str "keep", .str "kept", .str "leave", .str "limit", .str "look", .str "lost", .str "may", .str "miss", .str "must", .str "none", .str "of", .str "place", .str "rest", .str "round", .str "row", .str "times", .str "to", .str "with"])]
abbrev R : PySem.W.OpenRow := PySem.W.OpenLaw.row PySem.Challenge.rw_lookturns_k76_whole_simple_rules
abbrev hk : PySem.W.Hook := hookL 4 fa fn ts
def ob (s : PySem.W.SharedT) : AlL := obsLG 4 fa fn ts (HandSHeadRun.getT s)
theorem ob_eq (s : PySem.W.SharedT) : ob s = hk.obs s.abs := obsLG_eq (HandSHeadRun.getT_eq s)
def loose : List PySem.Str := (["LookError", "InvalidHouse", "InvalidWay", "InvalidAges", "SMALL_LETTERS", "LONGEST_NAME", "WORDS", "is_whole", "is_number", "is_string", "is_made_of", "is_word", "is_name", "is_tuple_of", "is_in", "is_ascending", "is_less", "MOST_PLACES", "MOST_LIMIT", "MOST_AGES", "product_of", "is_limit", "is_pair_of_house", "is_house_form", "names_of", "limits_in", "all_below", "all_ages", "keep_limits", "aged"] : List PySem.Str) ++ (["ages_after", "check_house", "wrong_ages", "check_ages", "WAYS", "check_way", "check_ruled", "urge_of", "look_by", "led_by", "rule_look", "breaks_by", "rule_ring", "kept_by_rule", "_law_well", "_law_draw", "_law_of", "_law_same", "_law_names", "_law_house", "_law_places", "_law_looks", "_law_all_ages", "_law_behind", "_law_ways", "_law_safe", "_law_nothing", "_law_gaps", "_law_keeps_round", "_law_ages"] : List PySem.Str) ++ (["_law_rule_look", "_law_led", "_law_right"] : List PySem.Str)
theorem run (w : World) : HandSHeadRun.RunEq R (PySem.W.view R.prog [69]) hk ob 4000 loose w := by
  intro os
  kernel_rfl
theorem g_of {P : Program} {w : World} {K : PySem.W.Frag} {h base : Heap} {mg : Str → Option Value} (X : K.In h) (N : h.Ns mainGlobals mg) (c : SaysL fa fn ts K) : G ⟨P, w, K, mg, base, []⟩ where
  f_is_whole := by
    obtain ⟨fd, F⟩ := c.d.def_ 0 (d := dd "is_whole" 9 []) rfl
    exact ⟨_, fd, He.glo_ok X N (c.d.fact 0 (f := .glo "is_whole") rfl), F⟩
  f_is_number := by
    obtain ⟨fd, F⟩ := c.d.def_ 1 (d := dd "is_number" 10 [.non]) rfl
    exact ⟨_, fd, He.glo_ok X N (c.d.fact 1 (f := .glo "is_number") rfl), F⟩
  f_is_string := by
    obtain ⟨fd, F⟩ := c.d.def_ 2 (d := dd "is_string" 11 []) rfl
    exact ⟨_, fd, He.glo_ok X N (c.d.fact 2 (f := .glo "is_string") rfl), F⟩
  f_is_made_of := by
    obtain ⟨fd, F⟩ := c.d.def_ 3 (d := dd "is_made_of" 12 []) rfl
    exact ⟨_, fd, He.glo_ok X N (c.d.fact 3 (f := .glo "is_made_of") rfl), F⟩
  f_is_word := by
    obtain ⟨fd, F⟩ := c.d.def_ 4 (d := dd "is_word" 13 []) rfl
    exact ⟨_, fd, He.glo_ok X N (c.d.fact 4 (f := .glo "is_word") rfl), F⟩
  f_is_name := by
    obtain ⟨fd, F⟩ := c.d.def_ 5 (d := dd "is_name" 14 []) rfl
    exact ⟨_, fd, He.glo_ok X N (c.d.fact 5 (f := .glo "is_name") rfl), F⟩
  f_is_tuple_of := by
    obtain ⟨fd, F⟩ := c.d.def_ 6 (d := dd "is_tuple_of" 15 []) rfl
    exact ⟨_, fd, He.glo_ok X N (c.d.fact 6 (f := .glo "is_tuple_of") rfl), F⟩
  f_is_in := by
    obtain ⟨fd, F⟩ := c.d.def_ 7 (d := dd "is_in" 16 []) rfl
    exact ⟨_, fd, He.glo_ok X N (c.d.fact 7 (f := .glo "is_in") rfl), F⟩
  f_is_ascending := by
    obtain ⟨fd, F⟩ := c.d.def_ 8 (d := dd "is_ascending" 17 []) rfl
    exact ⟨_, fd, He.glo_ok X N (c.d.fact 8 (f := .glo "is_ascending") rfl), F⟩
  f_is_less := by
    obtain ⟨fd, F⟩ := c.d.def_ 9 (d := dd "is_less" 18 []) rfl
    exact ⟨_, fd, He.glo_ok X N (c.d.fact 9 (f := .glo "is_less") rfl), F⟩
  f_product_of := by
    obtain ⟨fd, F⟩ := c.d.def_ 10 (d := dd "product_of" 23 []) rfl
    exact ⟨_, fd, He.glo_ok X N (c.d.fact 10 (f := .glo "product_of") rfl), F⟩
  f_is_limit := by
    obtain ⟨fd, F⟩ := c.d.def_ 11 (d := dd "is_limit" 24 []) rfl
    exact ⟨_, fd, He.glo_ok X N (c.d.fact 11 (f := .glo "is_limit") rfl), F⟩
  f_is_pair_of_house := by
    obtain ⟨fd, F⟩ := c.d.def_ 12 (d := dd "is_pair_of_house" 25 []) rfl
    exact ⟨_, fd, He.glo_ok X N (c.d.fact 12 (f := .glo "is_pair_of_house") rfl), F⟩
  f_names_of := by
    obtain ⟨fd, F⟩ := c.d.def_ 13 (d := dd "names_of" 27 []) rfl
    exact ⟨_, fd, He.glo_ok X N (c.d.fact 13 (f := .glo "names_of") rfl), F⟩
  f_limits_in := by
    obtain ⟨fd, F⟩ := c.d.def_ 14 (d := dd "limits_in" 28 []) rfl
    exact ⟨_, fd, He.glo_ok X N (c.d.fact 14 (f := .glo "limits_in") rfl), F⟩
  f_is_house_form := by
    obtain ⟨fd, F⟩ := c.d.def_ 15 (d := dd "is_house_form" 26 []) rfl
    exact ⟨_, fd, He.glo_ok X N (c.d.fact 15 (f := .glo "is_house_form") rfl), F⟩
  f_all_below := by
    obtain ⟨fd, F⟩ := c.d.def_ 16 (d := dd "all_below" 29 []) rfl
    exact ⟨_, fd, He.glo_ok X N (c.d.fact 16 (f := .glo "all_below") rfl), F⟩
  f_all_ages := by
    obtain ⟨fd, F⟩ := c.d.def_ 17 (d := dd "all_ages" 30 []) rfl
    exact ⟨_, fd, He.glo_ok X N (c.d.fact 17 (f := .glo "all_ages") rfl), F⟩
  f_keep_limits := by
    obtain ⟨fd, F⟩ := c.d.def_ 18 (d := dd "keep_limits" 31 []) rfl
    exact ⟨_, fd, He.glo_ok X N (c.d.fact 18 (f := .glo "keep_limits") rfl), F⟩
  f_aged := by
    obtain ⟨fd, F⟩ := c.d.def_ 19 (d := dd "aged" 32 []) rfl
    exact ⟨_, fd, He.glo_ok X N (c.d.fact 19 (f := .glo "aged") rfl), F⟩
  f_ages_after := by
    obtain ⟨fd, F⟩ := c.d.def_ 20 (d := dd "ages_after" 33 []) rfl
    exact ⟨_, fd, He.glo_ok X N (c.d.fact 20 (f := .glo "ages_after") rfl), F⟩
  f_check_house := by
    obtain ⟨fd, F⟩ := c.d.def_ 21 (d := dd "check_house" 35 []) rfl
    exact ⟨_, fd, He.glo_ok X N (c.d.fact 21 (f := .glo "check_house") rfl), F⟩
  f_wrong_ages := by
    obtain ⟨fd, F⟩ := c.d.def_ 22 (d := dd "wrong_ages" 36 []) rfl
    exact ⟨_, fd, He.glo_ok X N (c.d.fact 22 (f := .glo "wrong_ages") rfl), F⟩
  f_check_ages := by
    obtain ⟨fd, F⟩ := c.d.def_ 23 (d := dd "check_ages" 37 []) rfl
    exact ⟨_, fd, He.glo_ok X N (c.d.fact 23 (f := .glo "check_ages") rfl), F⟩
  f_check_way := by
    obtain ⟨fd, F⟩ := c.d.def_ 24 (d := dd "check_way" 40 []) rfl
    exact ⟨_, fd, He.glo_ok X N (c.d.fact 24 (f := .glo "check_way") rfl), F⟩
  f_check_ruled := by
    obtain ⟨fd, F⟩ := c.d.def_ 25 (d := dd "check_ruled" 41 []) rfl
    exact ⟨_, fd, He.glo_ok X N (c.d.fact 25 (f := .glo "check_ruled") rfl), F⟩
  f_urge_of := by
    obtain ⟨fd, F⟩ := c.d.def_ 26 (d := dd "urge_of" 42 []) rfl
    exact ⟨_, fd, He.glo_ok X N (c.d.fact 26 (f := .glo "urge_of") rfl), F⟩
  f_look_by := by
    obtain ⟨fd, F⟩ := c.d.def_ 27 (d := dd "look_by" 43 []) rfl
    exact ⟨_, fd, He.glo_ok X N (c.d.fact 27 (f := .glo "look_by") rfl), F⟩
  f_led_by := by
    obtain ⟨fd, F⟩ := c.d.def_ 28 (d := dd "led_by" 44 []) rfl
    exact ⟨_, fd, He.glo_ok X N (c.d.fact 28 (f := .glo "led_by") rfl), F⟩
  f_rule_look := by
    obtain ⟨fd, F⟩ := c.d.def_ 29 (d := dd "rule_look" 45 []) rfl
    exact ⟨_, fd, He.glo_ok X N (c.d.fact 29 (f := .glo "rule_look") rfl), F⟩
  f_breaks_by := by
    obtain ⟨fd, F⟩ := c.d.def_ 30 (d := dd "breaks_by" 46 []) rfl
    exact ⟨_, fd, He.glo_ok X N (c.d.fact 30 (f := .glo "breaks_by") rfl), F⟩
  f_rule_ring := by
    obtain ⟨fd, F⟩ := c.d.def_ 31 (d := dd "rule_ring" 47 []) rfl
    exact ⟨_, fd, He.glo_ok X N (c.d.fact 31 (f := .glo "rule_ring") rfl), F⟩
  f_kept_by_rule := by
    obtain ⟨fd, F⟩ := c.d.def_ 32 (d := dd "kept_by_rule" 48 []) rfl
    exact ⟨_, fd, He.glo_ok X N (c.d.fact 32 (f := .glo "kept_by_rule") rfl), F⟩
  f__law_well := by
    obtain ⟨fd, F⟩ := c.d.def_ 33 (d := dd "_law_well" 50 []) rfl
    exact ⟨_, fd, He.glo_ok X N (c.d.fact 33 (f := .glo "_law_well") rfl), F⟩
  f__law_draw := by
    obtain ⟨fd, F⟩ := c.d.def_ 34 (d := dd "_law_draw" 51 []) rfl
    exact ⟨_, fd, He.glo_ok X N (c.d.fact 34 (f := .glo "_law_draw") rfl), F⟩
  f__law_of := by
    obtain ⟨fd, F⟩ := c.d.def_ 35 (d := dd "_law_of" 52 []) rfl
    exact ⟨_, fd, He.glo_ok X N (c.d.fact 35 (f := .glo "_law_of") rfl), F⟩
  f__law_same := by
    obtain ⟨fd, F⟩ := c.d.def_ 36 (d := dd "_law_same" 53 []) rfl
    exact ⟨_, fd, He.glo_ok X N (c.d.fact 36 (f := .glo "_law_same") rfl), F⟩
  f__law_names := by
    obtain ⟨fd, F⟩ := c.d.def_ 37 (d := dd "_law_names" 54 []) rfl
    exact ⟨_, fd, He.glo_ok X N (c.d.fact 37 (f := .glo "_law_names") rfl), F⟩
  f__law_house := by
    obtain ⟨fd, F⟩ := c.d.def_ 38 (d := dd "_law_house" 55 []) rfl
    exact ⟨_, fd, He.glo_ok X N (c.d.fact 38 (f := .glo "_law_house") rfl), F⟩
  f__law_places := by
    obtain ⟨fd, F⟩ := c.d.def_ 39 (d := dd "_law_places" 56 []) rfl
    exact ⟨_, fd, He.glo_ok X N (c.d.fact 39 (f := .glo "_law_places") rfl), F⟩
  f__law_looks := by
    obtain ⟨fd, F⟩ := c.d.def_ 40 (d := dd "_law_looks" 57 []) rfl
    exact ⟨_, fd, He.glo_ok X N (c.d.fact 40 (f := .glo "_law_looks") rfl), F⟩
  f__law_all_ages := by
    obtain ⟨fd, F⟩ := c.d.def_ 41 (d := dd "_law_all_ages" 58 []) rfl
    exact ⟨_, fd, He.glo_ok X N (c.d.fact 41 (f := .glo "_law_all_ages") rfl), F⟩
  f__law_behind := by
    obtain ⟨fd, F⟩ := c.d.def_ 42 (d := dd "_law_behind" 59 []) rfl
    exact ⟨_, fd, He.glo_ok X N (c.d.fact 42 (f := .glo "_law_behind") rfl), F⟩
  f__law_ways := by
    obtain ⟨fd, F⟩ := c.d.def_ 43 (d := dd "_law_ways" 60 []) rfl
    exact ⟨_, fd, He.glo_ok X N (c.d.fact 43 (f := .glo "_law_ways") rfl), F⟩
  f__law_safe := by
    obtain ⟨fd, F⟩ := c.d.def_ 44 (d := dd "_law_safe" 61 []) rfl
    exact ⟨_, fd, He.glo_ok X N (c.d.fact 44 (f := .glo "_law_safe") rfl), F⟩
  f__law_nothing := by
    obtain ⟨fd, F⟩ := c.d.def_ 45 (d := dd "_law_nothing" 62 []) rfl
    exact ⟨_, fd, He.glo_ok X N (c.d.fact 45 (f := .glo "_law_nothing") rfl), F⟩
  f__law_gaps := by
    obtain ⟨fd, F⟩ := c.d.def_ 46 (d := dd "_law_gaps" 63 []) rfl
    exact ⟨_, fd, He.glo_ok X N (c.d.fact 46 (f := .glo "_law_gaps") rfl), F⟩
  f__law_keeps_round := by
    obtain ⟨fd, F⟩ := c.d.def_ 47 (d := dd "_law_keeps_round" 64 []) rfl
    exact ⟨_, fd, He.glo_ok X N (c.d.fact 47 (f := .glo "_law_keeps_round") rfl), F⟩
  f__law_ages := by
    obtain ⟨fd, F⟩ := c.d.def_ 48 (d := dd "_law_ages" 65 []) rfl
    exact ⟨_, fd, He.glo_ok X N (c.d.fact 48 (f := .glo "_law_ages") rfl), F⟩
  f__law_rule_look := by
    obtain ⟨fd, F⟩ := c.d.def_ 49 (d := dd "_law_rule_look" 66 []) rfl
    exact ⟨_, fd, He.glo_ok X N (c.d.fact 49 (f := .glo "_law_rule_look") rfl), F⟩
  f__law_led := by
    obtain ⟨fd, F⟩ := c.d.def_ 50 (d := dd "_law_led" 67 []) rfl
    exact ⟨_, fd, He.glo_ok X N (c.d.fact 50 (f := .glo "_law_led") rfl), F⟩
  f__law_right := by
    obtain ⟨fd, F⟩ := c.d.def_ 51 (d := dd "_law_right" 68 []) rfl
    exact ⟨_, fd, He.glo_ok X N (c.d.fact 51 (f := .glo "_law_right") rfl), F⟩
  f_law := by
    obtain ⟨fd, F⟩ := c.d.def_ 52 (d := dd "law" 69 []) rfl
    exact ⟨_, fd, He.glo_ok X N (c.d.fact 52 (f := .glo "law") rfl), F⟩
  n_abs := He.free_ok X N (c.d.fact 53 (f := .free "abs") rfl)
  n_all := He.free_ok X N (c.d.fact 54 (f := .free "all") rfl)
  n_bool := He.free_ok X N (c.d.fact 55 (f := .free "bool") rfl)
  n_divmod := He.free_ok X N (c.d.fact 56 (f := .free "divmod") rfl)
  n_enumerate := He.free_ok X N (c.d.fact 57 (f := .free "enumerate") rfl)
  n_int := He.free_ok X N (c.d.fact 58 (f := .free "int") rfl)
  n_isinstance := He.free_ok X N (c.d.fact 59 (f := .free "isinstance") rfl)
  n_len := He.free_ok X N (c.d.fact 60 (f := .free "len") rfl)
  n_list := He.free_ok X N (c.d.fact 61 (f := .free "list") rfl)
  n_max := He.free_ok X N (c.d.fact 62 (f := .free "max") rfl)
  n_range := He.free_ok X N (c.d.fact 63 (f := .free "range") rfl)
  n_sorted := He.free_ok X N (c.d.fact 64 (f := .free "sorted") rfl)
  n_str := He.free_ok X N (c.d.fact 65 (f := .free "str") rfl)
  n_tuple := He.free_ok X N (c.d.fact 66 (f := .free "tuple") rfl)
  n_zip := He.free_ok X N (c.d.fact 67 (f := .free "zip") rfl)
  c_LONGEST_NAME := gloV_int (B := ⟨P, w, K, mg, base, []⟩) X N (c.d.fact 68 (f := .int "LONGEST_NAME" 8) rfl)
  c_MOST_AGES := gloV_int (B := ⟨P, w, K, mg, base, []⟩) X N (c.d.fact 69 (f := .int "MOST_AGES" 600) rfl)
  c_MOST_LIMIT := gloV_int (B := ⟨P, w, K, mg, base, []⟩) X N (c.d.fact 70 (f := .int "MOST_LIMIT" 60) rfl)
  c_MOST_PLACES := gloV_int (B := ⟨P, w, K, mg, base, []⟩) X N (c.d.fact 71 (f := .int "MOST_PLACES" 6) rfl)
  c_SMALL_LETTERS := gloV_str (B := ⟨P, w, K, mg, base, []⟩) X N (c.d.fact 72 (f := .str "SMALL_LETTERS" "abcdefghijklmnopqrstuvwxyz") rfl) (okS_lit (by decide +kernel))
  c_WAYS := gloV_tup (B := ⟨P, w, K, mg, base, []⟩) (vs := [.str "room", .str "share", .str "oldest"]) X N (c.d.fact 73 (f := .glo "WAYS") rfl) (c.tab (t := ("WAYS", [.str "room", .str "share", .str "oldest"])) (by simp [ts])) (fun _ _ => (.cons (.str (okS_lit (by decide +kernel))) (.cons (.str (okS_lit (by decide +kernel))) (.cons (.str (okS_lit (by decide +kernel))) .nil)))) (by rw [List.length_map, sizeLine_eq]; decide)
  c_WORDS := gloV_tup (B := ⟨P, w, K, mg, base, []⟩) (vs := [.str "add", .str "ages", .str "all", .str "at", .str "away", .str "by", .str "doors", .str "due", .str "every", .str "from", .str "house", .str "keep", .str "kept", .str "leave", .str "limit", .str "look", .str "lost", .str "may", .str "miss", .str "must", .str "none", .str "of", .str "place", .str "rest", .str "round", .str "row", .str "times", .str "to", .str "with"]) X N (c.d.fact 74 (f := .glo "WORDS") rfl) (c.tab (t := ("WORDS", [.str "add", .str "ages", .str "all", .str "at", .str "away", .str "by", .str "doors", .str "due", .str "every", .str "from", .str "house", .str "keep", .str "kept", .str "leave", .str "limit", .str "look", .str "lost", .str "may", .str "miss", .str "must", .str "none", .str "of", .str "place", .str "rest", .str "round", .str "row", .str "times", .str "to", .str "with"])) (by simp [ts])) (fun _ _ => (.cons (.str (okS_lit (by decide +kernel))) (.cons (.str (okS_lit (by decide +kernel))) (.cons (.str (okS_lit (by decide +kernel))) (.cons (.str (okS_lit (by decide +kernel))) (.cons (.str (okS_lit (by decide +kernel))) (.cons (.str (okS_lit (by decide +kernel))) (.cons (.str (okS_lit (by decide +kernel))) (.cons (.str (okS_lit (by decide +kernel))) (.cons (.str (okS_lit (by decide +kernel))) (.cons (.str (okS_lit (by decide +kernel))) (.cons (.str (okS_lit (by decide +kernel))) (.cons (.str (okS_lit (by decide +kernel))) (.cons (.str (okS_lit (by decide +kernel))) (.cons (.str (okS_lit (by decide +kernel))) (.cons (.str (okS_lit (by decide +kernel))) (.cons (.str (okS_lit (by decide +kernel))) (.cons (.str (okS_lit (by decide +kernel))) (.cons (.str (okS_lit (by decide +kernel))) (.cons (.str (okS_lit (by decide +kernel))) (.cons (.str (okS_lit (by decide +kernel))) (.cons (.str (okS_lit (by decide +kernel))) (.cons (.str (okS_lit (by decide +kernel))) (.cons (.str (okS_lit (by decide +kernel))) (.cons (.str (okS_lit (by decide +kernel))) (.cons (.str (okS_lit (by decide +kernel))) (.cons (.str (okS_lit (by decide +kernel))) (.cons (.str (okS_lit (by decide +kernel))) (.cons (.str (okS_lit (by decide +kernel))) (.cons (.str (okS_lit (by decide +kernel))) .nil)))))))))))))))))))))))))))))) (by rw [List.length_map, sizeLine_eq]; decide)
theorem law_ok (math : ∀ ns : List Int, ns.length ≤ 63 → ∃ S, sem_law [.klst (ns.map .int)] [] [] = some (.ok (.bl true) S)) {P : Program} {w : World} {K : PySem.W.Frag} {h : Heap} {mg : Str → Option Value} {f : Addr} (X : K.In h) (N : h.Ns mainGlobals mg) (hfa : mg ("law" : Str) = some (.ref f)) (c : SaysL fa fn ts K) :
    ∃ fd : FuncData, (∀ (s : Shared) (v : Value), BindsTo s fd ⟨[v], []⟩ [("script", v)]) ∧ ∀ base : Heap, K.In base → base.Ns mainGlobals mg → FnOk P w K mg base (L2.CX P w) 10 f fd ["script"] (spLaw K 63) := by
  obtain ⟨fd, F⟩ := c.d.def_ 52 (d := dd "law" 69 []) rfl
  have e := hfa.symm.trans (He.glo_ok X N (c.d.fact 52 (f := .glo "law") rfl))
  cases e
  have b := FunD.bindsA (ps := ["script"]) F fun _ _ _ _ _ _ us hl => match us, hl with | [_], _ => rfl
  refine ⟨fd, fun s v => b s [v] rfl, fun base _ _ => ?_⟩
  have g : G ⟨P, w, K, mg, base, []⟩ := g_of X N c
  have q := fn_ok (B := ⟨P, w, K, mg, base, []⟩) (k := 9) F sc_law fun cdv A outer s H E hr => ss_law g hr
  exact q.imp fun vs H Q E h => law_sp (B := ⟨P, w, K, mg, base, []⟩) rfl (by rw [sizeLine_eq]; decide) math vs H Q E h
end k76
open PySem PySem.W PySem.Calls PyProof.Rows in
theorem k76_holds (math : ∀ ns : List Int, ns.length ≤ 63 → ∃ S, k76.sem_law [.klst (ns.map .int)] [] [] = some (.ok (.bl true) S)) : PySem.Challenge.rw_lookturns_k76_whole_simple_rules.Holds := by
  w_on; o_law
  refine HandSHeadRun.head_any (r := OpenLaw.row PySem.Challenge.rw_lookturns_k76_whole_simple_rules) (q := view (OpenLaw.row PySem.Challenge.rw_lookturns_k76_whole_simple_rules).prog [69]) (H := k76.hk) (ob := k76.ob) (M := 4000) (loose := k76.loose) (d := HandSHeadRun.topDef (OpenLaw.row PySem.Challenge.rw_lookturns_k76_whole_simple_rules).prog 69) (kwd := []) k76.ob_eq
    (by kernel_rfl) (fun s => by kernel_rfl) k76.run (by kernel_rfl) (by kernel_rfl) (by kernel_rfl) (by rfl) (by first | assumption | decide +kernel) (by decide +kernel) ⟨rfl, rfl, rfl, rfl, rfl, by decide +kernel⟩ ?hw ?hc
  case hw => w_witness2
  case hc =>
    refine L2.walk_ofE (l := PySem.Challenge.rw_lookturns_k76_whole_simple_rules) (n := 63) (k := 10) (x := "script") (CX := Lk.CXx) rfl (by decide) (by kernel_rfl) ⟨rfl, by decide, by decide⟩ ?F Lk.cxx_no
    intro w mg fa h Y G hmg0
    obtain ⟨K, KX, c⟩ := Y
    have hmg : mg ("law" : PySem.Str) = some (.ref fa) := by
      have e : (HandSHeadRun.topDef (OpenLaw.row PySem.Challenge.rw_lookturns_k76_whole_simple_rules).prog 69).name = ("law" : PySem.Str) := by kernel_rfl
      rw [← e]
      exact hmg0
    obtain ⟨fd, hb, hF⟩ := k76.law_ok (P := (PySem.Challenge.rw_lookturns_k76_whole_simple_rules).prog) (w := w) math KX G hmg c
    exact ⟨K, fd, Lk.spLaw K 63, KX, hb, fun H a ns hl hO hS => ⟨a, ns, rfl, hl, hO, hS, fun _ => rfl⟩, fun base KB NB => Lk.fn_cxx (hF base KB NB)⟩
set_option linter.all false
set_option autoImplicit false
set_option maxRecDepth 100000
namespace k76
open Lk PySem
variable {κs : List Lk.Sem} {S : Sto}
theorem p_is_whole (i : Int) : sem_is_whole [.int i] κs S = some (.ok (.bl true) S) := by
  simp [sem_is_whole, m_is_whole, startSl, sl1, isiD, truthD]
theorem p_is_number3 (i a b : Int) : sem_is_number [.int i, .int a, .int b] κs S = some (.ok (.bl (decide (a ≤ i) && decide (i ≤ b))) S) := by
  by_cases h1 : a ≤ i <;> by_cases h2 : i ≤ b <;> simp [sem_is_number, m_is_number, startSl, sl1, p_is_whole, truthD, leD, D.isNon, h1, h2]
theorem p_is_less (a b c d : Int) (h1 : small a = true) (h2 : small c = true) : sem_is_less [.tup [.int a, .int b], .tup [.int c, .int d]] κs S = some (.ok (.bl (decide (a * d < c * b))) S) := by
  simp [sem_is_less, m_is_less, startSl, sl1, ixS, ixD, L2.atI, L2.ixN, mulD, mulOk, h1, h2, ltD]
theorem p_is_string (x : Str) : sem_is_string [.str x] κs S = some (.ok (.bl true) S) := by
  simp [sem_is_string, m_is_string, startSl, sl1, isiD]
def letters : Str := "abcdefghijklmnopqrstuvwxyz"
theorem c_letters : c_SMALL_LETTERS = .str letters := rfl
theorem in_letters : ∀ c ∈ letters.cps.toList, inS ⟨#[c]⟩ letters = true := by decide +kernel
theorem blsD_map {α : Type} (p : α → Bool) : ∀ xs : List α, blsD (xs.map fun x => .bl (p x)) = some (xs.map p)
  | [] => rfl
  | x :: xs => by
    show (blsD (xs.map fun x => .bl (p x))).map _ = _
    rw [blsD_map p xs]; rfl
theorem p_is_made_of (x : Str) (h : x.cps.toList ≠ []) (hc : ∀ c ∈ x.cps.toList, c ∈ letters.cps.toList) (he : eqD (.str x) (.str "") = some false) : sem_is_made_of [.str x, .str letters] κs S = some (.ok (.bl true) S) := by
  have hcomp : ∀ v : Ev, v.sl = [some (.val (.str x)), some (.val (.str letters)), none] →
      mComp (mIt (mVar 0)) (.nm 2) [2] (mRet true) (mCmp (memD false) (mVar 2) (mBor 1)) v S = some (.ok (x.cps.toList.map fun _ => .bl true) S) := by
    intro v hv
    refine mComp_ok (ds := signs x) (S1 := S) (by simp [hv, iterD]) ?_
    unfold signs
    refine compL_all (fun c => .str ⟨#[c]⟩) (fun _ => .bl true) x.cps.toList fun c hcm => ?_
    refine ⟨[some (.val (.str x)), some (.val (.str letters)), some (.val (.str ⟨#[c]⟩))], by rw [hv]; rfl, rfl, ?_⟩
    simp [memD, inD, in_letters c (hc c hcm)]
  simp [sem_is_made_of, m_is_made_of, startSl, sl1, neD, he, truthD]
  rw [hcomp _ rfl]
  have := blsD_map (fun _ : Nat => true) x.cps.toList
  simp [allD, this]
/-! ### names, houses -/
def words : List Str := ["add", "ages", "all", "at", "away", "by", "doors", "due", "every", "from", "house", "keep", "kept", "leave", "limit", "look", "lost", "may", "miss", "must", "none", "of", "place", "rest", "round", "row", "times", "to", "with"]
structure NameOk (x : Str) : Prop where
  ne : x.cps.toList ≠ []
  ch : ∀ c ∈ x.cps.toList, c ∈ letters.cps.toList
  len : x.length ≤ 8
  nw : x ∉ words
theorem str_len (x : Str) : x.length = x.cps.toList.length := (Array.length_toList).symm
theorem eqD_str {x y : Str} (hx : PyData.strOk x = true) (hy : PyData.strOk y = true) : eqD (.str x) (.str y) = some (decide (x = y)) := by
  simp [eqD, eqOk, D.plain, D.P, PyData.depth, PyData.eqv]
  exact Bool.eq_iff_iff.mpr (by simp)
theorem strOk_any (x : Str) (h : ∀ c ∈ x.cps.toList, c < 0x110000) : PyData.strOk x = true := by
  show x.cps.all _ = true
  rw [Array.all_eq_true_iff_forall_mem]
  intro c hc
  exact decide_eq_true (h c (by simpa using hc))
theorem NameOk.ok {x : Str} (h : NameOk x) : PyData.strOk x = true := strOk_any x fun c hc => by
  have q : ∀ c ∈ letters.cps.toList, c < 0x110000 := by decide +kernel
  exact q c (h.ch c hc)
theorem NameOk.nonempty {x : Str} (h : NameOk x) : x ≠ "" := fun z => h.ne (by rw [z]; rfl)
theorem p_is_word {x : Str} (h : NameOk x) : sem_is_word [.str x] κs S = some (.ok (.bl true) S) := by
  have e : eqD (.str x) (.str "") = some false := by
    rw [eqD_str h.ok (by decide +kernel)]
    simp [h.nonempty]
  simp [sem_is_word, m_is_word, startSl, sl1, p_is_string, truthD, c_letters, p_is_made_of x h.ne h.ch e]
theorem not_in_words {x : Str} (h : x ∉ words) : inD (.str x) c_WORDS = some false := by
  have e : c_WORDS = .ktup (words.map .str) := rfl
  rw [e]
  have f : (words.map D.str).all D.flat = true := by decide +kernel
  show (if (D.str x).flat && (words.map D.str).all D.flat then some (anyEq (.str x) (words.map D.str)) else none) = _
  rw [f]
  show some (anyEq (.str x) (words.map D.str)) = some false
  congr 1
  unfold anyEq
  rw [List.any_eq_false]
  intro d hd
  obtain ⟨y, hy, rfl⟩ := List.mem_map.mp hd
  have hne : y ≠ x := fun z => h (z ▸ hy)
  simp [D.P, PyData.eqv, hne]
theorem p_is_name {x : Str} (h : NameOk x) : sem_is_name [.str x] κs S = some (.ok (.bl true) S) := by
  have hl : (x.length : Int) ≤ 8 := by have := h.len; omega
  have e : c_LONGEST_NAME = .int 8 := rfl
  simp [sem_is_name, m_is_name, startSl, sl1, p_is_word h, truthD, lenD, leD, e, hl, memD, not_in_words h.nw]
theorem p_is_limit (i : Int) (h : 1 ≤ i) (h' : i ≤ 60) : sem_is_limit [.int i] κs S = some (.ok (.bl true) S) := by
  have e : c_MOST_LIMIT = .int 60 := rfl
  simp [sem_is_limit, m_is_limit, startSl, sl1, e, p_is_number3, h, h']
theorem eqD_int (i j : Int) : eqD (.int i) (.int j) = some (decide (i = j)) := by
  simp [eqD, eqOk, D.plain, D.P, PyData.depth, PyData.eqv]
  exact Bool.eq_iff_iff.mpr (by simp)
theorem p_is_tuple_of (ds : List D) (n : Int) : sem_is_tuple_of [.tup ds, .int n] κs S = some (.ok (.bl (decide ((ds.length : Int) = n))) S) := by
  simp [sem_is_tuple_of, m_is_tuple_of, startSl, sl1, isiD, truthD, lenD, eqD_int]
abbrev House := List (Str × Int)
def prD (p : Str × Int) : D := .tup [.str p.1, .int p.2]
def hD (h : House) : D := .tup (h.map prD)
@[simp] theorem sl1_hD (h : House) : sl1 (hD h) = .val (hD h) := rfl
@[simp] theorem isiD_hD (h : House) : isiD .tuple (hD h) = some true := rfl
@[simp] theorem lenD_hD (h : House) : lenD [hD h] = some (.int h.length) := by simp [hD, lenD]
theorem p_is_pair {x : Str} {l : Int} (h : NameOk x) (h1 : 1 ≤ l) (h2 : l ≤ 60) : sem_is_pair_of_house [prD (x, l)] κs S = some (.ok (.bl true) S) := by
  simp [sem_is_pair_of_house, m_is_pair_of_house, startSl, sl1, prD, p_is_tuple_of, truthD, ixS, ixD, L2.atI, L2.ixN, p_is_name h, p_is_limit l h1 h2]
theorem p_names_of (h : House) : sem_names_of [hD h] κs S = some (.ok (.lst (h.map fun p => .str p.1)) S) := by
  have hc : ∀ v : Ev, v.sl = [some (.val (hD h)), none, none] → mComp (mIt (mVar 0)) (.tup (.cons (.nm 1) (.cons (.nm 2) .nil))) [1, 2] (mRet true) (mVar 1) v S = some (.ok (h.map fun p => .str p.1) S) := by
    intro v hv
    refine mComp_ok (ds := h.map prD) (S1 := S) (by simp [hv, iterD, hD]) (compL_all prD _ h fun p _ => ⟨[some (.val (hD h)), some (.val (.str p.1)), some (.val (.int p.2))], by rw [hv]; rfl, rfl, by simp⟩)
  simp [sem_names_of, m_names_of, startSl, sl1]
  rw [hc _ rfl]
theorem p_limits_in (h : House) : sem_limits_in [hD h] κs S = some (.ok (.lst (h.map fun p => .int p.2)) S) := by
  have hc : ∀ v : Ev, v.sl = [some (.val (hD h)), none, none] → mComp (mIt (mVar 0)) (.tup (.cons (.nm 1) (.cons (.nm 2) .nil))) [1, 2] (mRet true) (mVar 2) v S = some (.ok (h.map fun p => .int p.2) S) := by
    intro v hv
    refine mComp_ok (ds := h.map prD) (S1 := S) (by simp [hv, iterD, hD]) (compL_all prD _ h fun p _ => ⟨[some (.val (hD h)), some (.val (.str p.1)), some (.val (.int p.2))], by rw [hv]; rfl, rfl, by simp⟩)
  simp [sem_limits_in, m_limits_in, startSl, sl1]
  rw [hc _ rfl]
def prodI : List Int → Int
  | [] => 1
  | n :: ns => n * prodI ns
theorem prodI_pos : ∀ {ns : List Int}, (∀ n ∈ ns, 1 ≤ n) → 1 ≤ prodI ns
  | [], _ => by simp [prodI]
  | n :: ns, h => by
    have h1 := h n List.mem_cons_self
    have h2 := prodI_pos fun m hm => h m (List.mem_cons_of_mem _ hm)
    show 1 ≤ n * prodI ns
    have : 1 * 1 ≤ n * prodI ns := Int.mul_le_mul h1 h2 (by omega) (by omega)
    omega
theorem p_product_of (ns : List Int) (h1 : ∀ n ∈ ns, 1 ≤ n) (h2 : prodI ns ≤ 600) : sem_product_of [.lst (ns.map .int)] κs S = some (.ok (.int (prodI ns)) S) := by
  have hf : ∃ y, forL (.nm 2) (mSeq (mSet 1 (mOp2 mulD (mVar 1) (mVar 2))) mSkip) (ns.map .int) ⟨[some (.val (.lst (ns.map .int))), some (.val (.int 1)), none], κs⟩ S = some (.nx [some (.val (.lst (ns.map .int))), some (.val (.int (prodI ns))), y] S) := by
    obtain ⟨sl, S', e, acc, rest, y, e1, rfl, e3, _, _, rfl⟩ := forL_run (t := .nm 2) (mb := mSeq (mSet 1 (mOp2 mulD (mVar 1) (mVar 2))) mSkip) (κs := κs)
      (fun ds sl S' => ∃ (acc : Int) (rest : List Int) (y : Option Sl), ds = rest.map .int ∧ sl = [some (.val (.lst (ns.map .int))), some (.val (.int acc)), y] ∧ acc * prodI rest = prodI ns ∧ 1 ≤ acc ∧ (∀ n ∈ rest, 1 ≤ n) ∧ S' = S)
      (fun d ds sl S' ⟨acc, rest, y, e1, e2, e3, e4, e5, e6⟩ => by
        cases rest with
        | nil => cases e1
        | cons n rest =>
          cases e1
          subst e2 e6
          have p1 := prodI_pos fun m hm => e5 m (List.mem_cons_of_mem _ hm)
          have n1 := e5 n List.mem_cons_self
          have e3' : acc * (n * prodI rest) = prodI ns := e3
          have sm : small acc = true := by
            have q : acc * 1 ≤ acc * (n * prodI rest) := Int.mul_le_mul_of_nonneg_left (by
              have : 1 * 1 ≤ n * prodI rest := Int.mul_le_mul n1 p1 (by omega) (by omega)
              omega) (by omega)
            have : acc ≤ 600 := by omega
            unfold small
            simp
            omega
          refine ⟨[some (.val (.lst (ns.map .int))), some (.val (.int acc)), some (.val (.int n))], rfl, [some (.val (.lst (ns.map .int))), some (.val (.int (acc * n))), some (.val (.int n))], S', .inl ?_, acc * n, rest, _, rfl, rfl, by rw [Int.mul_assoc]; exact e3, ?_, fun m hm => e5 m (List.mem_cons_of_mem _ hm), rfl⟩
          · simp [mulD, mulOk, sm]
          · have : 1 * 1 ≤ acc * n := Int.mul_le_mul e4 n1 (by omega) (by omega)
            omega)
      (ns.map .int) [some (.val (.lst (ns.map .int))), some (.val (.int 1)), none] S ⟨1, ns, none, rfl, rfl, by omega, by omega, h1, rfl⟩
    cases rest with
    | cons a b => cases e1
    | nil =>
      have : acc = prodI ns := by simpa [prodI] using e3
      subst this
      exact ⟨y, e⟩
  obtain ⟨y, hf⟩ := hf
  simp [sem_product_of, m_product_of, startSl, sl1, mFor, iterD]
  rw [hf]
  simp
theorem atI_at {α : Type} (xs : List α) (i : Nat) (h : i < xs.length) : L2.atI xs (i : Int) = some xs[i] := L2.atI_nat (List.getElem?_eq_getElem h)
theorem p_is_ascending (xs : List Str) (hl : xs.length ≤ 1000) (h : ∀ (i : Nat) (hi : i + 1 < xs.length), ltS xs[i] xs[i + 1] = true) : sem_is_ascending [.lst (xs.map .str)] κs S = some (.ok (.bl true) S) := by
  have hc : ∀ v : Ev, v.sl = [some (.val (.lst (xs.map .str))), none] → mComp (mRng2 (mRet (.int 1)) (mCall lenD (mCons (mBor 0) mNil))) (.nm 1) [1] (mRet true) (mCmp ltD (mIxS (mBor 0) (mOp2 subD (mVar 1) (mRet (.int 1)))) (mIxS (mBor 0) (mVar 1))) v S =
      some (.ok ((List.range ((xs.length : Int) - 1).toNat).map fun _ => .bl true) S) := by
    intro v hv
    refine mComp_ok (ds := rngD 1 xs.length) (S1 := S) ?_ ?_
    · have e : rng2D (.int 1) (.int xs.length) = some (rngD 1 xs.length) := by
        exact rng2_ok (by omega) (by decide) (by decide) (by omega) (by omega)
      simp [mRng2, hv, lenD, e]
    · refine compL_all (fun (i : Nat) => .int (1 + (i : Int))) (fun _ => .bl true) (List.range ((xs.length : Int) - 1).toNat) fun i hi => ?_
      have hi' : i + 1 < xs.length := by have := List.mem_range.mp hi; omega
      refine ⟨[some (.val (.lst (xs.map .str))), some (.val (.int (1 + (i : Int))))], by rw [hv]; rfl, rfl, ?_⟩
      have e1 : L2.atI (xs.map D.str) (i : Int) = some (.str xs[i]) := by rw [atI_at _ i (by rw [List.length_map]; omega)]; simp
      have e2 : L2.atI (xs.map D.str) (1 + (i : Int)) = some (.str xs[i + 1]) := by
        have q : (1 + (i : Int)) = ((i + 1 : Nat) : Int) := by omega
        rw [q, atI_at _ (i + 1) (by rw [List.length_map]; omega)]; simp
      have e3 : (1 + (i : Int) - 1) = (i : Int) := by omega
      simp [subD, ixS, ixD, e3, e1, e2, ltD, h i hi']
  simp [sem_is_ascending, m_is_ascending, startSl, sl1]
  rw [hc _ rfl]
  simp [allD, blsD_map (fun _ : Nat => true)]
structure HouseOk (h : House) : Prop where
  ne : 1 ≤ h.length
  le : h.length ≤ 6
  nm : ∀ p ∈ h, NameOk p.1
  lo : ∀ p ∈ h, 1 ≤ p.2
  hi : ∀ p ∈ h, p.2 ≤ 60
  asc : ∀ (i : Nat) (hi : i + 1 < h.length), ltS h[i].1 h[i + 1].1 = true
  pr : prodI (h.map (·.2)) ≤ 600
theorem p_is_house_form {h : House} (ok : HouseOk h) : sem_is_house_form [hD h] κs S = some (.ok (.bl true) S) := by
  have hc : ∀ v : Ev, v.sl = [some (.val (hD h)), none] → mComp (mIt (mVar 0)) (.nm 1) [1] (mRet true) (mFn sem_is_pair_of_house [] (mCons (mVar 1) mNil)) v S = some (.ok (h.map fun _ => .bl true) S) := by
    intro v hv
    refine mComp_ok (ds := h.map prD) (S1 := S) (by simp [hv, iterD, hD]) (compL_all prD _ h fun p hp => ⟨[some (.val (hD h)), some (.val (prD p))], by rw [hv]; rfl, rfl, ?_⟩)
    have q := p_is_pair (κs := v.κs) (S := S) (ok.nm p hp) (ok.lo p hp) (ok.hi p hp)
    simp [q]
  have a1 : (1 : Int) ≤ (h.length : Int) := by have := ok.ne; omega
  have a2 : (h.length : Int) ≤ 6 := by have := ok.le; omega
  have e6 : c_MOST_PLACES = .int 6 := rfl
  have e7 : c_MOST_AGES = .int 600 := rfl
  have asc := p_is_ascending (κs := κs) (S := S) (h.map (·.1)) (by rw [List.length_map]; have := ok.le; omega) (fun i hi => by
    have := ok.asc i (by simpa using hi)
    simpa using this)
  have pr := p_product_of (κs := κs) (S := S) (h.map (·.2)) (fun n hn => by obtain ⟨p, hp, rfl⟩ := List.mem_map.mp hn; exact ok.lo p hp) ok.pr
  rw [List.map_map] at asc pr
  have hn := p_names_of (κs := κs) (S := S) h
  have hl := p_limits_in (κs := κs) (S := S) h
  have n1 : (h.map fun p => D.str p.1) = h.map (D.str ∘ fun p => p.1) := rfl
  have n2 : (h.map fun p => D.int p.2) = h.map (D.int ∘ fun p => p.2) := rfl
  rw [n1] at hn
  rw [n2] at hl
  simp [sem_is_house_form, m_is_house_form, startSl, truthD, mCh, leD, e6, e7, a1, a2, hc, allD, blsD_map (fun _ : Str × Int => true), hn, hl, asc, pr, ok.pr]
end k76
set_option linter.all false
set_option autoImplicit false
set_option maxRecDepth 100000
namespace k76
open Lk PySem
variable {κs : List Lk.Sem} {S : Sto}
abbrev Ages := List Int
def agD (a : Ages) : D := .tup (a.map .int)
@[simp] theorem sl1_agD (a : Ages) : sl1 (agD a) = .val (agD a) := rfl
@[simp] theorem sl1_lst (a : List D) : sl1 (.lst a) = .val (.lst a) := rfl
@[simp] theorem sl1_str (a : Str) : sl1 (.str a) = .val (.str a) := rfl
@[simp] theorem sl1_int (a : Int) : sl1 (.int a) = .val (.int a) := rfl
@[simp] theorem sl1_tup (a : List D) : sl1 (.tup a) = .val (.tup a) := rfl
@[simp] theorem sl1_obj (a : Nat) : sl1 (.obj a) = .val (.obj a) := rfl
@[simp] theorem sl1_non : sl1 .non = .val .non := rfl
theorem zipWith_pair {α β : Type} (F : α → D) (G : β → D) : ∀ (xs : List α) (ys : List β), List.zipWith pairD (xs.map F) (ys.map G) = (xs.zip ys).map fun p => pairD (F p.1) (G p.2)
  | [], _ => by simp
  | _ :: _, [] => by simp
  | x :: xs, y :: ys => by simp [zipWith_pair F G xs ys]
theorem mZip_ok {ma mb : M D} {v : Ev} {S1 S2 : Sto} {a b : D} {ds : List D} (h1 : ma v S = some (.ok a S1)) (h2 : mb v S1 = some (.ok b S2)) (h3 : zipD a b = some ds) : mZip ma mb v S = some (.ok ds S2) := by
  unfold mZip
  rw [mBind_ap, h1]
  show mBind mb _ v S1 = _
  rw [mBind_ap, h2]
  show mOpt (zipD a b) v S2 = _
  rw [h3]; rfl
theorem allD_map {α : Type} (f : α → Bool) (xs : List α) : allD [.lst (xs.map fun x => .bl (f x))] = some (.bl (xs.all f)) := by
  show (blsD (xs.map fun x => .bl (f x))).map _ = _
  rw [blsD_map]
  rw [Option.map_some]
  congr 2
  rw [List.all_map]; rfl
def keeps (h : House) (a : Ages) : Bool := (a.zip (h.map (·.2))).all fun p => decide (p.1 < p.2)
theorem p_keep_limits (h : House) (a : Ages) : sem_keep_limits [hD h, agD a] κs S = some (.ok (.bl (keeps h a)) S) := by
  have hl : ∀ κs, sem_limits_in [hD h] κs S = some (.ok (.lst (h.map fun p => .int p.2)) S) := fun κs => p_limits_in h
  have hc : ∀ v : Ev, v.sl = [some (.val (hD h)), some (.val (agD a)), none, none] → mComp (mZip (mVar 1) (mFn sem_limits_in [] (mCons (mVar 0) mNil))) (.tup (.cons (.nm 2) (.cons (.nm 3) .nil))) [2, 3] (mRet true) (mCmp ltD (mBor 2) (mBor 3)) v S =
      some (.ok ((a.zip (h.map (·.2))).map fun p => .bl (decide (p.1 < p.2))) S) := by
    intro v hv
    refine mComp_ok (ds := (a.zip (h.map (·.2))).map fun p => pairD (.int p.1) (.int p.2)) (S1 := S) ?_ ?_
    · have e : (h.map fun p => D.int p.2) = (h.map (·.2)).map D.int := by rw [List.map_map]; rfl
      refine mZip_ok (a := agD a) (b := .lst ((h.map (·.2)).map D.int)) (S1 := S) (by simp [hv]) (by rw [← e]; simp [hv, hl]) ?_
      exact congrArg some (zipWith_pair D.int D.int a (h.map (·.2)))
    · exact compL_all (fun p : Int × Int => pairD (.int p.1) (.int p.2)) _ _ fun p _ => ⟨[some (.val (hD h)), some (.val (agD a)), some (.val (.int p.1)), some (.val (.int p.2))], by rw [hv]; rfl, rfl, by simp [ltD]⟩
  have e0 : startSl 4 [hD h, agD a] = [some (.val (hD h)), some (.val (agD a)), none, none] := rfl
  unfold sem_keep_limits m_keep_limits
  simp only [semOf_ap, mSeq_ap, mRtn_ap, mThen_ap, mCall_ap, mBind_ap, mCons_ap, mNil_ap, mLs_ap, e0]
  rw [hc _ rfl]
  simp only [mRet_ap]
  rw [allD_map]
  rfl
def stepA (h : House) (a : Ages) (look : Str) : Ages := List.zipWith (fun (p : Str × Int) age => if p.1 = look then 0 else age + 1) h a
theorem in_one (x y : Str) : memD false (.str x) (.tup [.str y]) = some (decide (x = y)) := by
  simp [memD, inD, D.flat, anyEq, D.P, PyData.eqv]
  exact Bool.eq_iff_iff.mpr (by rw [beq_iff_eq, decide_eq_true_iff]; exact eq_comm)
theorem p_aged (h : House) (a : Ages) (look : Str) : sem_aged [hD h, agD a, .tup [.str look]] κs S = some (.ok (agD (stepA h a look)) S) := by
  have hn : ∀ κs, sem_names_of [hD h] κs S = some (.ok (.lst (h.map fun p => .str p.1)) S) := fun κs => p_names_of h
  have hc : ∀ v : Ev, v.sl = [some (.val (hD h)), some (.val (agD a)), some (.val (.tup [.str look])), none, none] → mComp (mZip (mFn sem_names_of [] (mCons (mVar 0) mNil)) (mVar 1)) (.tup (.cons (.nm 3) (.cons (.nm 4) .nil))) [3, 4] (mRet true) (mIf (mCmpT (memD false) (mVar 3) (mBor 2)) (mRet (.int 0)) (mOp2 addD (mVar 4) (mRet (.int 1)))) v S =
      some (.ok ((stepA h a look).map .int) S) := by
    intro v hv
    have es : (stepA h a look).map D.int = (h.zip a).map fun q => D.int (if q.1.1 = look then 0 else q.2 + 1) := by
      unfold stepA
      rw [← List.map_uncurry_zip_eq_zipWith, List.map_map]
      rfl
    rw [es]
    refine mComp_ok (ds := (h.zip a).map fun q => pairD (.str q.1.1) (.int q.2)) (S1 := S) ?_ ?_
    · refine mZip_ok (a := .lst (h.map fun p => .str p.1)) (b := agD a) (S1 := S) (by simp [hv, hn]) (by simp [hv]) ?_
      exact congrArg some (zipWith_pair (fun p : Str × Int => D.str p.1) D.int h a)
    · refine compL_all (fun q : (Str × Int) × Int => pairD (.str q.1.1) (.int q.2)) _ _ fun q _ => ⟨[some (.val (hD h)), some (.val (agD a)), some (.val (.tup [.str look])), some (.val (.str q.1.1)), some (.val (.int q.2))], by rw [hv]; rfl, rfl, ?_⟩
      by_cases e : q.1.1 = look <;> simp [in_one, e, addD]
  have e0 : startSl 5 [hD h, agD a, .tup [.str look]] = [some (.val (hD h)), some (.val (agD a)), some (.val (.tup [.str look])), none, none] := rfl
  unfold sem_aged m_aged
  simp only [semOf_ap, mSeq_ap, mRtn_ap, mThen_ap, mCall_ap, mBind_ap, mCons_ap, mNil_ap, mLs_ap, e0]
  rw [hc _ rfl]
  rfl
def nextA (h : House) (a : Ages) (look : Str) : Option Ages := if keeps h (stepA h a look) then some (stepA h a look) else none
def optD : Option Ages → D
  | some a => agD a
  | none => .non
theorem p_ages_after (h : House) (a : Ages) (look : Str) : sem_ages_after [hD h, agD a, .str look] κs S = some (.ok (optD (nextA h a look)) S) := by
  have h1 : ∀ κs, sem_aged [hD h, agD a, .tup [.str look]] κs S = some (.ok (agD (stepA h a look)) S) := fun κs => p_aged h a look
  have h2 : ∀ κs, sem_keep_limits [hD h, agD (stepA h a look)] κs S = some (.ok (.bl (keeps h (stepA h a look))) S) := fun κs => p_keep_limits h _
  have z : (1 : Nat) ≤ sizeLine := by rw [PySem.sizeLine]; decide
  unfold nextA
  cases hk : keeps h (stepA h a look) <;> simp [sem_ages_after, m_ages_after, startSl, h1, h2, hk, truthD, optD, z]
theorem p_check_house {h : House} (ok : HouseOk h) : sem_check_house [hD h] κs S = some (.ok .non S) := by
  have h1 : ∀ κs, sem_is_house_form [hD h] κs S = some (.ok (.bl true) S) := fun κs => p_is_house_form ok
  simp [sem_check_house, m_check_house, startSl, h1, truthD]
theorem mem_enumL {ds : List D} {d : D} (h : d ∈ enumL ds) : ∃ (i : Int) (e : D), d = pairD (.int i) e ∧ e ∈ ds := by
  obtain ⟨i, hi⟩ := List.mem_iff_getElem?.mp h
  have hl : i < ds.length := by have := (List.getElem?_eq_some_iff.mp hi).1; rwa [enumL_len] at this
  rw [enumL_at ds i (List.getElem?_eq_getElem hl)] at hi
  exact ⟨_, _, (Option.some.inj hi).symm, List.getElem_mem hl⟩
structure AgesOk (h : House) (a : Ages) : Prop where
  len : a.length = h.length
  lo : ∀ n ∈ a, 0 ≤ n
  hi : ∀ q ∈ a.zip h, q.1 < q.2.2
theorem mEnZ_ok {ma mb : M D} {v : Ev} {S1 S2 : Sto} {a b : D} {ds : List D} (h1 : ma v S = some (.ok a S1)) (h2 : mb v S1 = some (.ok b S2)) (h3 : zipD a b = some ds) : mEnZ ma mb v S = some (.ok (enumL ds) S2) := by
  unfold mEnZ
  rw [mBind_ap, h1]
  show mBind mb _ v S1 = _
  rw [mBind_ap, h2]
  show mOpt ((zipD a b).map enumL) v S2 = _
  rw [h3]; rfl
theorem p_wrong_ages {h : House} {a : Ages} (ok : AgesOk h a) : sem_wrong_ages [hD h, agD a] κs S = some (.ok .non S) := by
  have hz : zipD (agD a) (hD h) = some ((a.zip h).map fun q => pairD (.int q.1) (prD q.2)) := congrArg some (zipWith_pair D.int prD a h)
  have hn : ∀ κs (i b : Int), sem_is_number [.int i, .int 0, .int b] κs S = some (.ok (.bl (decide (0 ≤ i) && decide (i ≤ b))) S) := fun κs i b => p_is_number3 i 0 b
  obtain ⟨sl', S', e, _, x, y, z, _, eS⟩ := forL_run (κs := κs) (t := .tup (.cons (.nm 2) (.cons (.tup (.cons (.nm 3) (.cons (.nm 4) .nil))) .nil)))
    (mb := mSeq (mIfS (mNotT (mTru (mFn sem_is_number [] (mCons (mVar 3) (mCons (mRet (.int 0)) (mCons (mOp2 subD (mIxS (mBor 4) (mRet (.int 1))) (mRet (.int 1))) mNil)))))) (mSeq (mRtn (mVar 2)) mSkip) mSkip) mSkip)
    (fun ds sl S' => (∀ d ∈ ds, ∃ (i : Int) (n : Int) (p : Str × Int), d = pairD (.int i) (pairD (.int n) (prD p)) ∧ 0 ≤ n ∧ n < p.2) ∧ ∃ x y z, sl = [some (.val (hD h)), some (.val (agD a)), x, y, z] ∧ S' = S)
    (fun d ds sl S' ⟨hd, x, y, z, e1, e2⟩ => by
      obtain ⟨i, n, p, rfl, h1, h2⟩ := hd d List.mem_cons_self
      subst e1 e2
      have c1 : n ≤ p.2 - 1 := by omega
      refine ⟨[some (.val (hD h)), some (.val (agD a)), some (.val (.int i)), some (.val (.int n)), some (.val (prD p))], rfl, [some (.val (hD h)), some (.val (agD a)), some (.val (.int i)), some (.val (.int n)), some (.val (prD p))], S', .inl ?_, fun d hd' => hd d (List.mem_cons_of_mem _ hd'), _, _, _, rfl, rfl⟩
      simp [prD, ixS, ixD, L2.atI, L2.ixN, subD, hn, h1, c1, truthD])
    (enumL ((a.zip h).map fun q => pairD (.int q.1) (prD q.2))) [some (.val (hD h)), some (.val (agD a)), none, none, none] S
    ⟨fun d hd => by
      obtain ⟨i, e, rfl, he⟩ := mem_enumL hd
      obtain ⟨q, hq, rfl⟩ := List.mem_map.mp he
      exact ⟨i, q.1, q.2, rfl, ok.lo _ (List.of_mem_zip hq).1, ok.hi q hq⟩, none, none, none, rfl, rfl⟩
  rw [eS] at e
  have e0 : startSl 5 [hD h, agD a] = [some (.val (hD h)), some (.val (agD a)), none, none, none] := rfl
  unfold sem_wrong_ages m_wrong_ages
  rw [semOf_ap, e0, mSeq_ap, mFor_ok (mEnZ_ok (a := agD a) (b := hD h) (S1 := S) (S2 := S) (by simp) (by simp) hz) e]
  simp
theorem p_check_ages {h : House} {a : Ages} (ok : AgesOk h a) : sem_check_ages [hD h, agD a] κs S = some (.ok .non S) := by
  have h1 : ∀ κs, sem_wrong_ages [hD h, agD a] κs S = some (.ok .non S) := fun κs => p_wrong_ages ok
  have h2 : ∀ κs, sem_is_tuple_of [agD a, .int h.length] κs S = some (.ok (.bl true) S) := fun κs => by
    rw [agD, p_is_tuple_of]
    simp [ok.len]
  simp [sem_check_ages, m_check_ages, startSl, h1, h2, truthD, D.isNon]
inductive Way where
  | room | share | oldest
def Way.s : Way → Str
  | .room => "room" | .share => "share" | .oldest => "oldest"
theorem p_check_way (w : Way) : sem_check_way [.str w.s] κs S = some (.ok .non S) := by
  have h1 : ∀ κs, sem_is_string [.str w.s] κs S = some (.ok (.bl true) S) := fun κs => p_is_string _
  have h2 : memD false (.str w.s) c_WAYS = some true := by cases w <;> decide +kernel
  have h3 : ∀ κs, sem_is_in [.str w.s, c_WAYS] κs S = some (.ok (.bl true) S) := fun κs => by
    have q : sl1 c_WAYS = .val c_WAYS := rfl
    simp [sem_is_in, m_is_in, startSl, h1, truthD, q, h2]
  simp [sem_check_way, m_check_way, startSl, h3, truthD]
theorem p_check_ruled {h : House} {a : Ages} (ok : HouseOk h) (oka : AgesOk h a) (w : Way) : sem_check_ruled [hD h, agD a, .str w.s] κs S = some (.ok .non S) := by
  have h1 : ∀ κs, sem_check_house [hD h] κs S = some (.ok .non S) := fun κs => p_check_house ok
  have h2 : ∀ κs, sem_check_ages [hD h, agD a] κs S = some (.ok .non S) := fun κs => p_check_ages oka
  have h3 : ∀ κs, sem_check_way [.str w.s] κs S = some (.ok .non S) := fun κs => p_check_way w
  simp [sem_check_ruled, m_check_ruled, startSl, mDrop, h1, h2, h3]
end k76
set_option linter.all false
set_option autoImplicit false
set_option maxRecDepth 100000
namespace k76
open Lk PySem
variable {κs : List Lk.Sem} {S : Sto}
def urge (w : Way) (n l : Int) : Int × Int := match w with
  | .room => (n - l, 1)
  | .share => (n + 1, l)
  | .oldest => (n, 1)
def urD (q : Int × Int) : D := .tup [.int q.1, .int q.2]
theorem way_eq (w : Way) (x : Str) (hx : PyData.strOk x = true) : eqD (.str w.s) (.str x) = some (decide (w.s = x)) := eqD_str (by cases w <;> decide +kernel) hx
theorem two_le' : (2 : Nat) ≤ sizeLine := two_le
theorem p_urge_of (w : Way) (n l : Int) : sem_urge_of [.int n, .int l, .str w.s] κs S = some (.ok (urD (urge w n l)) S) := by
  have e1 : eqD (.str w.s) (.str "room") = some (decide (w.s = "room")) := way_eq w _ (by decide +kernel)
  have e2 : eqD (.str w.s) (.str "share") = some (decide (w.s = "share")) := way_eq w _ (by decide +kernel)
  have d1 : ∀ w : Way, decide (w.s = "room") = (match w with | .room => true | _ => false) := fun w => by cases w <;> decide +kernel
  have d2 : ∀ w : Way, decide (w.s = "share") = (match w with | .share => true | _ => false) := fun w => by cases w <;> decide +kernel
  rw [d1] at e1
  rw [d2] at e2
  cases w <;> simp only at e1 e2 <;> simp [sem_urge_of, m_urge_of, startSl, e1, e2, subD, addD, two_le', urge, urD]
def lessB (p q : Int × Int) : Bool := decide (p.1 * q.2 < q.1 * p.2)
def pick (us : List (Int × Int)) : Nat → Nat
  | 0 => 0
  | i + 1 => if lessB (us.getD (pick us i) (0, 1)) (us.getD i (0, 1)) then i else pick us i
theorem pick_lt (us : List (Int × Int)) (h : us ≠ []) : ∀ i, i ≤ us.length → pick us i < us.length
  | 0, _ => List.length_pos_iff.mpr h
  | i + 1, hi => by
    unfold pick
    split
    · omega
    · exact pick_lt us h i (by omega)
theorem getD_lt {α : Type} (l : List α) (i : Nat) (d : α) (h : i < l.length) : l.getD i d = l[i] := by simp [List.getD, List.getElem?_eq_getElem h]
theorem small_of {i : Int} (h1 : -1000000 ≤ i) (h2 : i ≤ 1000000) : small i = true := by
  unfold small
  simp
  omega
def urges (h : House) (a : Ages) (w : Way) : List (Int × Int) := (a.zip h).map fun q => urge w q.1 q.2.2
def lookBy (h : House) (a : Ages) (w : Way) : Str := (h.getD (pick (urges h a w) h.length) ("", 0)).1
theorem p_look_by {h : House} {a : Ages} (ok : HouseOk h) (oka : AgesOk h a) (w : Way) : sem_look_by [hD h, agD a, .str w.s] κs S = some (.ok (.str (lookBy h a w)) S) := by
  obtain ⟨us, hus⟩ : ∃ us, us = urges h a w := ⟨_, rfl⟩
  have lus : us.length = h.length := by rw [hus, urges, List.length_map, List.length_zip, oka.len, Nat.min_self]
  have usne : us ≠ [] := fun z => by rw [z] at lus; have := ok.ne; simp at lus; omega
  have sm : ∀ q ∈ us, small q.1 = true := fun q hq => by
    rw [hus] at hq
    obtain ⟨r, hr, rfl⟩ := List.mem_map.mp hq
    have r1 := oka.lo _ (List.of_mem_zip hr).1
    have r2 := oka.hi r hr
    have r3 := ok.hi _ (List.of_mem_zip hr).2
    cases w
    · exact small_of (show -1000000 ≤ r.1 - r.2.2 by omega) (show r.1 - r.2.2 ≤ 1000000 by omega)
    · exact small_of (show -1000000 ≤ r.1 + 1 by omega) (show r.1 + 1 ≤ 1000000 by omega)
    · exact small_of (show -1000000 ≤ r.1 by omega) (show r.1 ≤ 1000000 by omega)
  have hu : ∀ κs (n l : Int), sem_urge_of [.int n, .int l, .str w.s] κs S = some (.ok (urD (urge w n l)) S) := fun κs n l => p_urge_of w n l
  have hn : ∀ κs, sem_names_of [hD h] κs S = some (.ok (.lst (h.map fun p => .str p.1)) S) := fun κs => p_names_of h
  have hc : ∀ v : Ev, v.sl = [some (.val (hD h)), some (.val (agD a)), some (.val (.str w.s)), none, none, none, none, none, none, none] →
      mComp (mZip (mVar 1) (mVar 0)) (.tup (.cons (.nm 7) (.cons (.tup (.cons (.nm 8) (.cons (.nm 9) .nil))) .nil))) [7, 8, 9] (mRet true) (mFn sem_urge_of [] (mCons (mVar 7) (mCons (mVar 9) (mCons (mVar 2) mNil)))) v S = some (.ok (us.map urD) S) := by
    intro v hv
    rw [hus, urges, List.map_map]
    refine mComp_ok (ds := (a.zip h).map fun q => pairD (.int q.1) (prD q.2)) (S1 := S) (mZip_ok (a := agD a) (b := hD h) (S1 := S) (by simp [hv]) (by simp [hv]) (congrArg some (zipWith_pair D.int prD a h))) ?_
    refine compL_all (fun q : Int × (Str × Int) => pairD (.int q.1) (prD q.2)) _ _ fun q _ => ⟨[some (.val (hD h)), some (.val (agD a)), some (.val (.str w.s)), none, none, none, none, some (.val (.int q.1)), some (.val (.str q.2.1)), some (.val (.int q.2.2))], by rw [hv]; rfl, rfl, ?_⟩
    simp [hu]
  have hle : ∀ κs (p q : Int × Int), small p.1 = true → small q.1 = true → sem_is_less [urD p, urD q] κs S = some (.ok (.bl (lessB p q)) S) := fun κs p q h1 h2 => p_is_less p.1 p.2 q.1 q.2 h1 h2
  obtain ⟨sl', S', e, i, x, y, e1, e2, e3, e4⟩ := forL_run (κs := κs) (t := .tup (.cons (.nm 5) (.cons (.nm 6) .nil)))
    (mb := mSeq (mIfS (mTru (mFn sem_is_less [] (mCons (mIxS (mBor 3) (mVar 4)) (mCons (mVar 6) mNil)))) (mSeq (mSet 4 (mVar 5)) mSkip) mSkip) mSkip)
    (fun ds sl S' => ∃ (i : Nat) (x y : Option Sl), ds = (enumL (us.map urD)).drop i ∧ i ≤ us.length ∧ sl = [some (.val (hD h)), some (.val (agD a)), some (.val (.str w.s)), some (.val (.lst (us.map urD))), some (.val (.int (pick us i : Nat))), x, y, none, none, none] ∧ S' = S)
    (fun d ds sl S' ⟨i, x, y, e1, e2, e3, e4⟩ => by
      subst e3 e4
      have hi : i < (enumL (us.map urD)).length := by
        rcases Nat.lt_or_ge i (enumL (us.map urD)).length with q | q
        · exact q
        · rw [List.drop_eq_nil_of_le q] at e1; cases e1
      have hi' : i < us.length := by rwa [enumL_len, List.length_map] at hi
      rw [List.drop_eq_getElem_cons hi] at e1
      obtain ⟨rfl, rfl⟩ := List.cons.inj e1
      have ed : (enumL (us.map urD))[i] = pairD (.int (i : Int)) (urD us[i]) := by
        have q := enumL_at (us.map urD) i (d := urD us[i]) (by rw [List.getElem?_map, List.getElem?_eq_getElem hi']; rfl)
        rw [List.getElem?_eq_getElem hi] at q
        exact Option.some.inj q
      rw [ed]
      have pl := pick_lt us usne i (by omega)
      have g1 : L2.atI (us.map urD) ((pick us i : Nat) : Int) = some (urD us[pick us i]) := by rw [atI_at _ _ (by rw [List.length_map]; exact pl)]; simp
      have g2 := hle κs us[pick us i] us[i] (sm _ (List.getElem_mem pl)) (sm _ (List.getElem_mem hi'))
      have pk : pick us (i + 1) = if lessB us[pick us i] us[i] then i else pick us i := by
        show (if lessB (us.getD (pick us i) (0, 1)) (us.getD i (0, 1)) then i else pick us i) = _
        rw [getD_lt _ _ _ pl, getD_lt _ _ _ hi']
      refine ⟨[some (.val (hD h)), some (.val (agD a)), some (.val (.str w.s)), some (.val (.lst (us.map urD))), some (.val (.int (pick us i : Nat))), some (.val (.int (i : Int))), some (.val (urD us[i])), none, none, none], rfl,
        [some (.val (hD h)), some (.val (agD a)), some (.val (.str w.s)), some (.val (.lst (us.map urD))), some (.val (.int (pick us (i + 1) : Nat))), some (.val (.int (i : Int))), some (.val (urD us[i])), none, none, none], S', .inl ?_, i + 1, _, _, rfl, hi', rfl, rfl⟩
      rw [pk]
      cases hb : lessB us[pick us i] us[i] <;> simp [ixS, ixD, g1, g2, hb, truthD])
    (enumL (us.map urD)) [some (.val (hD h)), some (.val (agD a)), some (.val (.str w.s)), some (.val (.lst (us.map urD))), some (.val (.int 0)), none, none, none, none, none] S ⟨0, none, none, rfl, Nat.zero_le _, rfl, rfl⟩
  rw [e4] at e
  have ei : i = us.length := by
    have q := congrArg List.length e1
    rw [List.length_drop, enumL_len, List.length_map] at q
    simp at q
    omega
  subst ei
  have pl := pick_lt us usne us.length (Nat.le_refl _)
  have e0 : startSl 10 [hD h, agD a, .str w.s] = [some (.val (hD h)), some (.val (agD a)), some (.val (.str w.s)), none, none, none, none, none, none, none] := rfl
  have hlt : pick us us.length < h.length := by rw [← lus]; exact pl
  have lk : lookBy h a w = h[pick us us.length].1 := by
    have q : pick (urges h a w) h.length = pick us us.length := by rw [← hus, lus]
    unfold lookBy
    rw [q, getD_lt _ _ _ hlt]
  have gn : L2.atI (h.map fun p => D.str p.1) ((pick us us.length : Nat) : Int) = some (.str (lookBy h a w)) := by
    rw [atI_at _ _ (by rw [List.length_map]; exact hlt), lk]; simp
  unfold sem_look_by m_look_by
  rw [semOf_ap, e0, mSeq_ap, mSet_ap, mThen_ap, mLs_ap, mBind_ap, hc _ rfl]
  subst e3
  simp [mFor, mEnum, enumD, e, hn, ixS, ixD, gn]
end k76
set_option linter.all false
set_option autoImplicit false
set_option maxRecDepth 100000
namespace k76
open Lk PySem
variable {κs : List Lk.Sem} {S : Sto}
/-! ### a rule led: places seen -/
def akey (a : Ages) : List L2.Key := a.map .inl
theorem kT_ag (a : Ages) : kT (akey a) = agD a := by
  unfold kT akey agD
  rw [List.map_map]; rfl
theorem keyQ_ag (a : Ages) : keyQ (agD a) = some (.inr (akey a)) := by rw [← kT_ag]; exact keyQ_kT _
theorem akey_inj : ∀ {a b : Ages}, akey a = akey b → a = b
  | [], [], _ => rfl
  | [], _ :: _, h => by cases h
  | _ :: _, [], h => by cases h
  | x :: a, y :: b, h => by
    have h' : (Sum.inl x : L2.Key) :: akey a = Sum.inl y :: akey b := h
    injection h' with h1 h2
    injection h1 with h1
    rw [h1, akey_inj h2]
/-- a dict of ages -/
def dOf (tr : Nat → Ages) (n : Nat) : List (D × D) := (List.range n).map fun i => (agD (tr i), .int (i : Int))
theorem kind_dOf (tr : Nat → Ages) (n : Nat) (a : Ages) : kindOk (dOf tr n) (.inr (akey a)) = true := by
  cases n with
  | zero => rfl
  | succ n =>
    unfold dOf
    rw [List.range_succ_eq_map, List.map_cons]
    simp [kindOk, keyQ_ag]
theorem find_dOf (tr : Nat → Ages) (n : Nat) (a : Ages) : findD (dOf tr n) (.inr (akey a)) = ((List.range n).find? fun i => decide (tr i = a)).map fun i => .int (i : Int) := by
  unfold findD dOf
  rw [List.find?_map]
  have e : ((fun kv : D × D => decide (keyQ kv.1 = some (.inr (akey a)))) ∘ fun (i : Nat) => (agD (tr i), D.int (i : Int))) = fun i => decide (tr i = a) := by
    funext i
    show decide (keyQ (agD (tr i)) = some (.inr (akey a))) = _
    rw [keyQ_ag]
    by_cases h : tr i = a
    · rw [h]; simp
    · have : akey (tr i) ≠ akey a := fun z => h (akey_inj z)
      simp [h, this]
  rw [e, Option.map_map]
  rfl
theorem look_dOf (tr : Nat → Ages) (n : Nat) (a : Ages) : lookD (dOf tr n) (agD a) = some (((List.range n).find? fun i => decide (tr i = a)).map fun i => .int (i : Int)) := by
  unfold lookD
  rw [keyQ_ag]
  simp only [kind_dOf, if_true, find_dOf]
theorem set_dOf (tr : Nat → Ages) (n : Nat) (h : ∀ i < n, tr i ≠ tr n) : setD (dOf tr n) (.inr (akey (tr n))) (agD (tr n)) (.int (n : Int)) = dOf tr (n + 1) := by
  have e : ((dOf tr n).any fun kv => decide (keyQ kv.1 = some (.inr (akey (tr n))))) = false := by
    rw [List.any_eq_false]
    intro kv hkv
    obtain ⟨i, hi, rfl⟩ := List.mem_map.mp hkv
    have hi' := List.mem_range.mp hi
    simp only [keyQ_ag, Option.some.injEq, decide_eq_true_eq]
    intro z
    exact h i hi' (akey_inj (by injection z))
  unfold setD
  rw [e]
  simp [dOf, List.range_succ]
/-! ### all ages, counted -/
def belowL : List Ages → List Int → List Ages
  | found, [] => found
  | found, l :: ls => belowL (found.flatMap fun row => (List.range l.toNat).map fun (i : Nat) => row ++ [(i : Int)]) ls
theorem belowL_len : ∀ (ls : List Int) (found : List Ages), (∀ l ∈ ls, 0 ≤ l) → ((belowL found ls).length : Int) = found.length * prodI ls
  | [], found, _ => by simp [belowL, prodI]
  | l :: ls, found, h => by
    have hl := h l List.mem_cons_self
    show ((belowL _ ls).length : Int) = found.length * (l * prodI ls)
    rw [belowL_len ls _ fun m hm => h m (List.mem_cons_of_mem _ hm)]
    have e : ((found.flatMap fun row => (List.range l.toNat).map fun (i : Nat) => row ++ [(i : Int)]).length : Int) = found.length * l := by
      rw [List.length_flatMap]
      simp only [List.length_map, List.length_range]
      rw [List.map_const', List.sum_replicate_nat]
      have : ((found.length * l.toNat : Nat) : Int) = found.length * (l.toNat : Int) := by omega
      rw [this, Int.toNat_of_nonneg hl]
    rw [e, Int.mul_assoc]
inductive Below : List Int → Ages → Prop
  | nil : Below [] []
  | cons {l : Int} {ls : List Int} {n : Int} {t : Ages} : 0 ≤ n → n < l → Below ls t → Below (l :: ls) (n :: t)
theorem belowL_mem : ∀ {ls : List Int} {t : Ages}, Below ls t → ∀ (found : List Ages) (row : Ages), row ∈ found → row ++ t ∈ belowL found ls
  | _, _, .nil, found, row, h => by rw [List.append_nil]; exact h
  | _, _, .cons (l := l) (ls := ls) (n := n) (t := t) h0 h1 hb, found, row, h => by
    show row ++ n :: t ∈ belowL (found.flatMap fun row => (List.range l.toNat).map fun (i : Nat) => row ++ [(i : Int)]) ls
    have e : row ++ n :: t = (row ++ [n]) ++ t := by simp
    rw [e]
    refine belowL_mem hb _ _ (List.mem_flatMap.mpr ⟨row, h, List.mem_map.mpr ⟨n.toNat, List.mem_range.mpr (by omega), ?_⟩⟩)
    rw [Int.toNat_of_nonneg h0]
def limits (h : House) : List Int := h.map (·.2)
def allA (h : House) : List Ages := belowL [[]] (limits h)
theorem below_of : ∀ {h : House} {a : Ages}, a.length = h.length → (∀ n ∈ a, 0 ≤ n) → (∀ q ∈ a.zip h, q.1 < q.2.2) → Below (limits h) a
  | [], [], _, _, _ => .nil
  | [], _ :: _, h, _, _ => by cases h
  | _ :: _, [], h, _, _ => by cases h
  | p :: h, n :: a, hl, h0, h1 => .cons (h0 n List.mem_cons_self) (h1 (n, p) (by simp)) (below_of (by simpa using hl) (fun m hm => h0 m (List.mem_cons_of_mem _ hm)) fun q hq => h1 q (by simp [hq]))
theorem AgesOk.mem {h : House} {a : Ages} (ok : AgesOk h a) : a ∈ allA h := by
  have := belowL_mem (below_of ok.len ok.lo ok.hi) [[]] [] (by simp)
  simpa [allA] using this
theorem allA_len {h : House} (ok : HouseOk h) : (allA h).length ≤ 600 := by
  have e := belowL_len (limits h) [[]] (fun l hl => by
    obtain ⟨p, hp, rfl⟩ := List.mem_map.mp hl
    have := ok.lo p hp
    omega)
  have := ok.pr
  unfold allA
  simp only [limits] at e ⊢
  simp at e
  omega
/-! ### the next ages -/
theorem stepA_lo (h : House) (a : Ages) (look : Str) (h0 : ∀ n ∈ a, 0 ≤ n) : ∀ n ∈ stepA h a look, 0 ≤ n := by
  intro n hn
  unfold stepA at hn
  rw [← List.map_uncurry_zip_eq_zipWith] at hn
  obtain ⟨q, hq, rfl⟩ := List.mem_map.mp hn
  have := h0 _ (List.of_mem_zip hq).2
  show 0 ≤ if q.1.1 = look then 0 else q.2 + 1
  split <;> omega
theorem nextA_ok {h : House} {a b : Ages} {look : Str} (ok : AgesOk h a) (e : nextA h a look = some b) : AgesOk h b := by
  unfold nextA at e
  split at e
  · rename_i hk
    cases e
    have hl : (stepA h a look).length = h.length := by
      unfold stepA
      rw [List.length_zipWith, ok.len, Nat.min_self]
    refine ⟨hl, stepA_lo h a look ok.lo, fun q hq => ?_⟩
    unfold keeps at hk
    rw [List.all_eq_true] at hk
    have e1 : (stepA h a look).zip (h.map (·.2)) = ((stepA h a look).zip h).map fun q => (q.1, q.2.2) := by
      rw [List.zip_map_right]
      rfl
    have q1 := hk (q.1, q.2.2) (by rw [e1]; exact List.mem_map.mpr ⟨q, hq, rfl⟩)
    exact of_decide_eq_true q1
  · cases e
def nx (h : House) (w : Way) (a : Ages) : Option Ages := nextA h a (lookBy h a w)
def tr (h : House) (w : Way) (a : Ages) : Nat → Ages
  | 0 => a
  | n + 1 => (nx h w (tr h w a n)).getD []
/-- the first n ages are unlike, each follows the one before -/
structure Led (h : House) (w : Way) (a : Ages) (n : Nat) : Prop where
  ne : ∀ i j, i < n → j < n → tr h w a i = tr h w a j → i = j
  go : ∀ i, i + 1 < n → nx h w (tr h w a i) = some (tr h w a (i + 1))
theorem Led.ages {h : House} {w : Way} {a : Ages} {n : Nat} (l : Led h w a n) (ok : AgesOk h a) : ∀ i, i < n → AgesOk h (tr h w a i)
  | 0, _ => ok
  | i + 1, hi => nextA_ok (Led.ages l ok i (by omega)) (l.go i hi)
theorem Led.bound {h : House} {w : Way} {a : Ages} {n : Nat} (l : Led h w a n) (ok : HouseOk h) (oka : AgesOk h a) : n ≤ 600 := by
  have nd : ((List.range n).map (tr h w a)).Nodup := by
    rw [List.nodup_iff_pairwise_ne, List.pairwise_map]
    refine List.Pairwise.imp_of_mem (fun {i j} hi hj hij z => hij (l.ne i j (List.mem_range.mp hi) (List.mem_range.mp hj) z)) (List.nodup_iff_pairwise_ne.mp List.nodup_range)
  have sub : (List.range n).map (tr h w a) ⊆ allA h := fun b hb => by
    obtain ⟨i, hi, rfl⟩ := List.mem_map.mp hb
    exact (l.ages oka i (List.mem_range.mp hi)).mem
  have := List.Nodup.length_le_of_subset nd sub
  rw [List.length_map, List.length_range] at this
  exact Nat.le_trans this (allA_len ok)
end k76
set_option linter.all false
set_option autoImplicit false
set_option maxRecDepth 100000
namespace k76
open Lk PySem
variable {κs : List Lk.Sem} {S : Sto}
def hereOf (h : House) (w : Way) (a : Ages) : Nat → Option Ages
  | 0 => some a
  | n + 1 => nx h w (tr h w a n)
theorem here_tr {h : House} {w : Way} {a b : Ages} : ∀ {n : Nat}, hereOf h w a n = some b → b = tr h w a n
  | 0, e => by cases e; rfl
  | n + 1, e => by
    show b = (nx h w (tr h w a n)).getD []
    have e' : nx h w (tr h w a n) = some b := e
    rw [e']; rfl
@[simp] theorem isNon_agD (a : Ages) : (agD a).isNon = false := rfl
@[simp] theorem optD_some (a : Ages) : optD (some a) = agD a := rfl
@[simp] theorem optD_none : optD none = .non := rfl
def looksD (h : House) (w : Way) (a : Ages) (n : Nat) : List D := (List.range n).map fun i => .str (lookBy h (tr h w a i) w)
def ledSl (h : House) (w : Way) (a : Ages) (n : Nat) (x : Option Sl) : List (Option Sl) :=
  [some (.val (hD h)), some (.val (agD a)), some (.val (.str w.s)), some (.own (.dct (dOf (tr h w a) n))), some (.own (.lst (looksD h w a n))), some (.val (optD (hereOf h w a n))), x]
theorem setOb_dOf (t : Nat → Ages) (n : Nat) (hn : n ≤ 600) (hd : ∀ i < n, t i ≠ t n) : setOb (.dct (dOf t n)) (agD (t n)) (.int (n : Int)) = some (.dct (dOf t (n + 1))) := by
  show (match keyQ (agD (t n)) with
    | some q => if kindOk (dOf t n) q = true ∧ (dOf t n).length < sizeLine then some (Ob.dct (setD (dOf t n) q (agD (t n)) (.int (n : Int)))) else none
    | none => none) = _
  rw [keyQ_ag]
  have hl : (dOf t n).length < sizeLine := by
    unfold dOf
    rw [List.length_map, List.length_range]
    have : (601 : Nat) ≤ sizeLine := by decide
    omega
  simp only [kind_dOf, hl, and_self, if_true, set_dOf t n hd]
theorem mem_dOf (t : Nat → Ages) (n : Nat) (b : Ages) : memD true (agD b) (.dct (dOf t n)) = some (!((List.range n).any fun i => decide (t i = b))) := by
  have e : inD (agD b) (.dct (dOf t n)) = (lookD (dOf t n) (agD b)).map Option.isSome := rfl
  unfold memD
  rw [e, look_dOf]
  simp only [Option.map_some, if_true, Option.isSome_map]
  congr 2
  exact Bool.eq_iff_iff.mpr (by rw [List.find?_isSome, List.any_eq_true])
theorem p_led_by {h : House} {a : Ages} (ok : HouseOk h) (oka : AgesOk h a) (w : Way) :
    ∃ n, Led h w a n ∧ 1 ≤ n ∧ ((hereOf h w a n = none ∧ ∀ κs S, sem_led_by [hD h, agD a, .str w.s] κs S = some (.ok (.tup [.lst (looksD h w a n), .non]) S)) ∨
      ∃ k, k < n ∧ hereOf h w a n = some (tr h w a k) ∧ ∀ κs S, sem_led_by [hD h, agD a, .str w.s] κs S = some (.ok (.tup [.lst (looksD h w a n), .int (k : Int)]) S)) := by
  -- where it ends
  have ends : ∃ n, Led h w a n ∧ 1 ≤ n ∧ (hereOf h w a n = none ∨ ∃ k, k < n ∧ hereOf h w a n = some (tr h w a k)) := by
    have go : ∀ m n, 601 - n = m → Led h w a n → (1 ≤ n → n ≤ 600) → (n = 0 ∨ 1 ≤ n) → ∃ n, Led h w a n ∧ 1 ≤ n ∧ (hereOf h w a n = none ∨ ∃ k, k < n ∧ hereOf h w a n = some (tr h w a k)) := by
      intro m
      induction m using Nat.strongRecOn with
      | ind m ih =>
        intro n hm l hb hn
        by_cases h1 : 1 ≤ n ∧ (hereOf h w a n = none ∨ ∃ k, k < n ∧ hereOf h w a n = some (tr h w a k))
        · exact ⟨n, l, h1.1, h1.2⟩
        · have l' : Led h w a (n + 1) := by
            have hs : hereOf h w a n = some (tr h w a n) ∧ ∀ k, k < n → tr h w a k ≠ tr h w a n := by
              cases n with
              | zero => exact ⟨rfl, fun k hk => by omega⟩
              | succ n =>
                cases hh : hereOf h w a (n + 1) with
                | none => exact absurd ⟨by omega, .inl hh⟩ h1
                | some b =>
                  have eb := here_tr hh
                  subst eb
                  exact ⟨rfl, fun k hk z => h1 ⟨by omega, .inr ⟨k, hk, by rw [hh, z]⟩⟩⟩
            refine ⟨fun i j hi hj e => ?_, fun i hi => ?_⟩
            · rcases Nat.lt_or_ge i n with p | p <;> rcases Nat.lt_or_ge j n with q | q
              · exact l.ne i j p q e
              · have : j = n := by omega
                subst this
                exact absurd e (hs.2 i p)
              · have : i = n := by omega
                subst this
                exact absurd e.symm (hs.2 j q)
              · omega
            · rcases Nat.lt_or_ge (i + 1) n with p | p
              · exact l.go i p
              · have : n = i + 1 := by omega
                subst this
                exact hs.1
          have b' := l'.bound ok oka
          exact ih (601 - (n + 1)) (by omega) (n + 1) rfl l' (fun _ => b') (.inr (by omega))
    exact go _ 0 rfl ⟨fun i j hi => by omega, fun i hi => by omega⟩ (fun h => by omega) (.inl rfl)
  obtain ⟨n, l, h1, hend⟩ := ends
  have hb := l.bound ok oka
  have here : ∀ i, i < n → hereOf h w a i = some (tr h w a i) := fun i hi => by
    cases i with
    | zero => rfl
    | succ i => exact l.go i hi
  have new : ∀ i, i < n → ∀ k, k < i → tr h w a k ≠ tr h w a i := fun i hi k hk z => by
    have := l.ne k i (by omega) hi z
    omega
  have run : ∀ κs S, ∃ x, whileN (mAndT (mIsNT false (mBor 5)) (mCmpT (memD true) (mVar 5) (mBor 3))) (mSeq (mPut 3 (mVar 5) (mCall lenD (mCons (mBor 4) mNil)))
      (mSeq (mSet 6 (mFn sem_look_by [] (mCons (mVar 0) (mCons (mVar 5) (mCons (mVar 2) mNil))))) (mSeq (mApp 4 (mVar 6)) (mSeq (mSet 5 (mFn sem_ages_after [] (mCons (mVar 0) (mCons (mVar 5) (mCons (mVar 6) mNil))))) mSkip)))) 1000000 ⟨ledSl h w a 0 none, κs⟩ S = some (.nx (ledSl h w a n x) S) := by
    intro κs S
    obtain ⟨sl', S', e, x, e1, e2⟩ := whileN_run (κs := κs) (fun m sl S' => ∃ i x, i ≤ n ∧ m = n - i ∧ sl = ledSl h w a i x ∧ S' = S) (fun sl S' => ∃ x, sl = ledSl h w a n x ∧ S' = S)
      (mt := mAndT (mIsNT false (mBor 5)) (mCmpT (memD true) (mVar 5) (mBor 3)))
      (mb := mSeq (mPut 3 (mVar 5) (mCall lenD (mCons (mBor 4) mNil))) (mSeq (mSet 6 (mFn sem_look_by [] (mCons (mVar 0) (mCons (mVar 5) (mCons (mVar 2) mNil))))) (mSeq (mApp 4 (mVar 6)) (mSeq (mSet 5 (mFn sem_ages_after [] (mCons (mVar 0) (mCons (mVar 5) (mCons (mVar 6) mNil))))) mSkip))))
      (fun m sl S' ⟨i, x, hi, em, esl, eS⟩ => by
        subst esl eS
        rcases Nat.lt_or_ge i n with p | p
        · right
          have hm : memD true (agD (tr h w a i)) (.dct (dOf (tr h w a) i)) = some true := by
            rw [mem_dOf]
            have : ((List.range i).any fun k => decide (tr h w a k = tr h w a i)) = false := by
              rw [List.any_eq_false]
              intro k hk
              simp only [decide_eq_true_eq]
              exact new i p k (List.mem_range.mp hk)
            rw [this]; rfl
          have oki := l.ages oka i p
          have hlk : ∀ κs, sem_look_by [hD h, agD (tr h w a i), .str w.s] κs S' = some (.ok (.str (lookBy h (tr h w a i) w)) S') := fun κs => p_look_by ok oki w
          have hnx : ∀ κs, sem_ages_after [hD h, agD (tr h w a i), .str (lookBy h (tr h w a i) w)] κs S' = some (.ok (optD (hereOf h w a (i + 1))) S') := fun κs => p_ages_after h _ _
          have hset := setOb_dOf (tr h w a) i (by omega) (new i p)
          have ll : (looksD h w a i).length = i := by unfold looksD; rw [List.length_map, List.length_range]
          have lapp : looksD h w a i ++ [.str (lookBy h (tr h w a i) w)] = looksD h w a (i + 1) := by unfold looksD; rw [List.range_succ, List.map_append]; rfl
          have lsz : i < sizeLine := by have : (601 : Nat) ≤ sizeLine := by decide
                                        omega
          refine ⟨S', ledSl h w a (i + 1) (some (.val (.str (lookBy h (tr h w a i) w)))), S', n - (i + 1), ?_, .inl ?_, by omega, i + 1, _, by omega, rfl, rfl, rfl⟩
          · simp [ledSl, here i p, hm]
          · simp [ledSl, here i p, mPut, mHas, putN, lenD, ll, hset, hlk, hnx, mApp, mHasL, appN, lsz, lapp]
        · left
          have ei : i = n := by omega
          subst ei
          refine ⟨S', ?_, x, rfl, rfl⟩
          rcases hend with hh | ⟨k, hk, hh⟩
          · simp [ledSl, hh, D.isNon]
          · have hm : memD true (agD (tr h w a k)) (.dct (dOf (tr h w a) i)) = some false := by
              rw [mem_dOf]
              have : ((List.range i).any fun j => decide (tr h w a j = tr h w a k)) = true := by
                rw [List.any_eq_true]
                exact ⟨k, List.mem_range.mpr hk, by simp⟩
              rw [this]; rfl
            simp [ledSl, hh, hm])
      n 1000000 (ledSl h w a 0 none) S (by omega) ⟨0, none, by omega, by omega, rfl, rfl⟩
    rw [e1, e2] at e
    exact ⟨x, e⟩
  have e0 : startSl 7 [hD h, agD a, .str w.s] = [some (.val (hD h)), some (.val (agD a)), some (.val (.str w.s)), none, none, none, none] := rfl
  have isK : (agD a).isK = false := rfl
  have par : ∀ κs S, mPar [3, 4, 5] (mSlO (mRet (.dct [])) (mSlO (mObL (mLN mNil)) (mSlV (mVar 1) mSl0))) ⟨[some (.val (hD h)), some (.val (agD a)), some (.val (.str w.s)), none, none, none, none], κs⟩ S = some (.nx (ledSl h w a 0 none) S) := fun κs S => by
    simp [mPar, mSlO, mSlV, mSl0, mObL, mLN, isK, putAll]
    rfl
  refine ⟨n, l, h1, ?_⟩
  have two : (2 : Nat) ≤ sizeLine := two_le
  rcases hend with hh | ⟨k, hk, hh⟩
  · refine .inl ⟨hh, fun κs S => ?_⟩
    obtain ⟨x, e⟩ := run κs S
    unfold sem_led_by m_led_by
    rw [semOf_ap, e0, mSeq_ap, par]
    show (match mSeq (whileN _ _ 1000000) _ ⟨ledSl h w a 0 none, κs⟩ S with
      | some (FlR.nx _ S') => some (R.ok D.non S')
      | some (FlR.rt d S') => some (R.ok d S')
      | some (FlR.er x _ S') => some (R.er x S')
      | _ => none) = _
    rw [mSeq_ap, e]
    simp [ledSl, hh, mFrz, D.isNon, two]
  · refine .inr ⟨k, hk, hh, fun κs S => ?_⟩
    obtain ⟨x, e⟩ := run κs S
    have hix : ixD (.dct (dOf (tr h w a) n)) (agD (tr h w a k)) = some (.int (k : Int)) := by
      have hf : (List.range n).find? (fun i => decide (tr h w a i = tr h w a k)) = some k := by
        cases hf : (List.range n).find? (fun i => decide (tr h w a i = tr h w a k)) with
        | none =>
          have := List.find?_eq_none.mp hf k (List.mem_range.mpr hk)
          simp at this
        | some i =>
          have h2 := List.find?_some hf
          have h3 := List.mem_range.mp (List.mem_of_find?_eq_some hf)
          rw [l.ne i k h3 hk (of_decide_eq_true h2)]
      simp [ixD, look_dOf, hf]
    unfold sem_led_by m_led_by
    rw [semOf_ap, e0, mSeq_ap, par]
    show (match mSeq (whileN _ _ 1000000) _ ⟨ledSl h w a 0 none, κs⟩ S with
      | some (FlR.nx _ S') => some (R.ok D.non S')
      | some (FlR.rt d S') => some (R.ok d S')
      | some (FlR.er x _ S') => some (R.er x S')
      | _ => none) = _
    rw [mSeq_ap, e]
    simp [ledSl, hh, mFrz, ixS, hix, two]
end k76
set_option linter.all false
set_option autoImplicit false
set_option maxRecDepth 100000
namespace k76
open Lk PySem
variable {κs : List Lk.Sem} {S : Sto}
theorem mDrop_ap {m : M D} {v : Ev} : mDrop m v S = mThen m (fun _ => mSkip) v S := rfl
theorem mSl_ap {ma : M D} {ml mh : M (Option Int)} {v : Ev} : mSl ma ml mh v S = (mBind ma fun a => mBind ml fun l => mBind mh fun h => mOpt (cutD a l h)) v S := rfl
theorem mSome_ap {ma : M D} {v : Ev} : mSome ma v S = (mBind ma fun a => mOpt ((intO a).map some)) v S := rfl
theorem p_rule_look {h : House} {a : Ages} (ok : HouseOk h) (oka : AgesOk h a) (w : Way) : sem_rule_look [hD h, agD a, .str w.s] κs S = some (.ok (.str (lookBy h a w)) S) := by
  have h1 : ∀ κs, sem_check_ruled [hD h, agD a, .str w.s] κs S = some (.ok .non S) := fun κs => p_check_ruled ok oka w
  have h2 : ∀ κs, sem_look_by [hD h, agD a, .str w.s] κs S = some (.ok (.str (lookBy h a w)) S) := fun κs => p_look_by ok oka w
  simp [sem_rule_look, m_rule_look, startSl, mDrop, h1, h2]
theorem looksD_len (h : House) (w : Way) (a : Ages) (n : Nat) : (looksD h w a n).length = n := by
  unfold looksD
  rw [List.length_map, List.length_range]
/-- what the program tells of a rule led from ages -/
theorem p_told {h : House} {a : Ages} (ok : HouseOk h) (oka : AgesOk h a) (w : Way) :
    ∃ n, Led h w a n ∧ 1 ≤ n ∧ ((hereOf h w a n = none ∧ (∀ κs S, sem_breaks_by [hD h, agD a, .str w.s] κs S = some (.ok (.int (n : Int)) S)) ∧ (∀ κs S, sem_rule_ring [hD h, agD a, .str w.s] κs S = some (.ok .non S)) ∧
        ∀ κs S, sem_led_by [hD h, agD a, .str w.s] κs S = some (.ok (.tup [.lst (looksD h w a n), .non]) S)) ∨
      ∃ k, k < n ∧ hereOf h w a n = some (tr h w a k) ∧ (∀ κs S, sem_breaks_by [hD h, agD a, .str w.s] κs S = some (.ok .non S)) ∧
        (∀ κs S, sem_rule_ring [hD h, agD a, .str w.s] κs S = some (.ok (.tup (cutL (looksD h w a n) (some (k : Int)) none)) S)) ∧
        ∀ κs S, sem_led_by [hD h, agD a, .str w.s] κs S = some (.ok (.tup [.lst (looksD h w a n), .int (k : Int)]) S)) := by
  have h1 : ∀ κs S, sem_check_ruled [hD h, agD a, .str w.s] κs S = some (.ok .non S) := fun κs S => p_check_ruled ok oka w
  have bt : ∀ (x y : D), bindT (.tup (.cons (.nm 3) (.cons (.nm 4) .nil))) (.tup [x, y]) [some (.val (hD h)), some (.val (agD a)), some (.val (.str w.s)), none, none] = some [some (.val (hD h)), some (.val (agD a)), some (.val (.str w.s)), some (.val x), some (.val y)] := fun x y => rfl
  obtain ⟨n, l, hn, hh⟩ := p_led_by ok oka w
  refine ⟨n, l, hn, ?_⟩
  rcases hh with ⟨he, hl⟩ | ⟨k, hk, he, hl⟩
  · refine .inl ⟨he, fun κs S => ?_, fun κs S => ?_, hl⟩
    · simp [sem_breaks_by, m_breaks_by, startSl, mDrop_ap, h1, hl, bt, D.isNon, lenD, looksD_len]
    · simp [sem_rule_ring, m_rule_ring, startSl, mDrop_ap, h1, hl, bt, D.isNon]
  · refine .inr ⟨k, hk, he, fun κs S => ?_, fun κs S => ?_, hl⟩
    · simp [sem_breaks_by, m_breaks_by, startSl, mDrop_ap, h1, hl, bt, D.isNon]
    · simp [sem_rule_ring, m_rule_ring, startSl, mDrop_ap, h1, hl, bt, D.isNon, mSl_ap, mSome_ap, intO, cutD, tupleD]
end k76
set_option linter.all false
set_option autoImplicit false
set_option maxRecDepth 100000
namespace k76
open Lk PySem
variable {κs : List Lk.Sem} {S : Sto}
def stepL (found : List Ages) (l : Int) : List Ages := found.flatMap fun row => (List.range l.toNat).map fun (i : Nat) => row ++ [(i : Int)]
theorem belowL_cons (found : List Ages) (l : Int) (ls : List Int) : belowL found (l :: ls) = belowL (stepL found l) ls := rfl
theorem rng1_map (l : Int) : rngD 0 l = (List.range l.toNat).map fun (i : Nat) => D.int (i : Int) := by
  unfold rngD
  rw [Int.sub_zero]
  congr 1
  funext i
  simp
theorem p_step (found : List Ages) (l : Int) (h0 : 0 ≤ l) (h1 : l ≤ 60) (hN : (stepL found l).length ≤ 1000) (hr : ∀ r ∈ found, r.length ≤ 100) (v : Ev) (ls : D) (hv : v.sl = [some (.val ls), some (.val (.lst (found.map agD))), some (.val (.int l)), none, none]) :
    mComp2 (mIt (mVar 1)) (.nm 3) [3, 4] (mRet true) (mRng1 (mVar 2)) (.nm 4) [4] (mRet true) (mTup (mStr (mVar 3) (mCons (mVar 4) mNil))) v S = some (.ok ((stepL found l).map agD) S) := by
  have sz : (1001 : Nat) ≤ sizeLine := by decide
  have e : (stepL found l).map agD = found.flatMap fun row => (List.range l.toNat).map fun (i : Nat) => agD (row ++ [(i : Int)]) := by
    unfold stepL
    rw [List.map_flatMap]
    congr 1
    funext row
    rw [List.map_map]
    rfl
  rw [e]
  refine mComp2_ok (ds := found.map agD) (S1 := S) (by simp [hv, iterD]) ?_
  have q := compL2_all (t := .nm 3) (vs := [3, 4]) (mt := mRet true) (mi1 := mRng1 (mVar 2)) (t1 := .nm 4) (vs1 := [4]) (mt1 := mRet true) (me := mTup (mStr (mVar 3) (mCons (mVar 4) mNil))) (v := v) (S := S) agD (fun _ => List.range l.toNat) (fun (i : Nat) => .int (i : Int)) (fun row (i : Nat) => agD (row ++ [(i : Int)])) 1000 (by omega) found [] (by
      have : (stepL found l).length = (found.flatMap fun _ => List.range l.toNat).length := by
        unfold stepL
        rw [List.length_flatMap, List.length_flatMap]
        simp
      rw [← this]
      simpa using hN) (fun row hrow => by
      refine ⟨[some (.val ls), some (.val (.lst (found.map agD))), some (.val (.int l)), some (.val (agD row)), none], by rw [hv]; rfl, rfl, ?_, fun i hi => ⟨[some (.val ls), some (.val (.lst (found.map agD))), some (.val (.int l)), some (.val (agD row)), some (.val (.int (i : Int)))], rfl, rfl, ?_⟩⟩
      · have r := rng1_ok (j := l) (by omega) (by omega)
        simp [mRng1, r, rng1_map]
      · have hl := hr row hrow
        have z : row.length + 1 ≤ sizeLine := by omega
        simp [mStr, itemsD, agD, z])
  simpa using q
theorem stepL_len (found : List Ages) (l : Int) (h0 : 0 ≤ l) : ((stepL found l).length : Int) = found.length * l := by
  have := belowL_len [l] found (fun m hm => by rw [List.mem_singleton.mp hm]; exact h0)
  rw [belowL_cons] at this
  simpa [belowL, prodI] using this
theorem stepL_row {found : List Ages} {l : Int} {n : Nat} (h : ∀ r ∈ found, r.length ≤ n) : ∀ r ∈ stepL found l, r.length ≤ n + 1 := by
  intro r hr
  obtain ⟨row, hrow, hr⟩ := List.mem_flatMap.mp hr
  obtain ⟨i, _, rfl⟩ := List.mem_map.mp hr
  rw [List.length_append]
  exact Nat.succ_le_succ (h row hrow)
theorem p_all_below (ls : List Int) (h1 : ∀ l ∈ ls, 1 ≤ l) (h2 : ∀ l ∈ ls, l ≤ 60) (hp : prodI ls ≤ 600) (hl : ls.length ≤ 50) : sem_all_below [.lst (ls.map .int)] κs S = some (.ok (.lst ((belowL [[]] ls).map agD)) S) := by
  obtain ⟨sl', S', e, found, rest, n, y, e1, e2, e3, _, _, _, _, e5⟩ := forL_run (κs := κs) (t := .nm 2)
    (mb := mSeq (mSet 1 (mLs (mComp2 (mIt (mVar 1)) (.nm 3) [3, 4] (mRet true) (mRng1 (mVar 2)) (.nm 4) [4] (mRet true) (mTup (mStr (mVar 3) (mCons (mVar 4) mNil)))))) mSkip)
    (fun ds sl S' => ∃ (found : List Ages) (rest : List Int) (n : Nat) (y : Option Sl), ds = rest.map .int ∧ sl = [some (.val (.lst (ls.map .int))), some (.val (.lst (found.map agD))), y, none, none] ∧ belowL found rest = belowL [[]] ls ∧
      (∀ l ∈ rest, 1 ≤ l ∧ l ≤ 60) ∧ (found.length : Int) * prodI rest ≤ 600 ∧ n + rest.length ≤ 50 ∧ (∀ r ∈ found, r.length ≤ n) ∧ S' = S)
    (fun d ds sl S' ⟨found, rest, n, y, e1, e2, e3, e4, e5, e6, e7, e8⟩ => by
      cases rest with
      | nil => cases e1
      | cons l rest =>
        cases e1
        subst e2 e8
        obtain ⟨l1, l2⟩ := e4 l List.mem_cons_self
        have p1 := prodI_pos fun m hm => (e4 m (List.mem_cons_of_mem _ hm)).1
        have sl := stepL_len found l (by omega)
        have e5' : (found.length : Int) * (l * prodI rest) ≤ 600 := e5
        have e5'' : ((stepL found l).length : Int) * prodI rest ≤ 600 := by rw [sl, Int.mul_assoc]; exact e5'
        have bd : ((stepL found l).length : Int) ≤ 600 := by
          have : ((stepL found l).length : Int) * 1 ≤ ((stepL found l).length : Int) * prodI rest := Int.mul_le_mul_of_nonneg_left p1 (by omega)
          omega
        refine ⟨[some (.val (.lst (ls.map .int))), some (.val (.lst (found.map agD))), some (.val (.int l)), none, none], rfl, [some (.val (.lst (ls.map .int))), some (.val (.lst ((stepL found l).map agD))), some (.val (.int l)), none, none], S', .inl ?_, stepL found l, rest, n + 1, _, rfl, rfl, by rw [← belowL_cons]; exact e3, fun m hm => e4 m (List.mem_cons_of_mem _ hm), e5'', by rw [List.length_cons] at e6; omega, stepL_row e7, rfl⟩
        have q := p_step (S := S') found l (by omega) l2 (by omega) (fun r hr => by have := e7 r hr; omega) ⟨[some (.val (.lst (ls.map .int))), some (.val (.lst (found.map agD))), some (.val (.int l)), none, none], κs⟩ _ rfl
        rw [mSeq_ap, mSet_ap, mThen_ap, mLs_ap, mBind_ap, q]
        rfl)
    (ls.map .int) [some (.val (.lst (ls.map .int))), some (.val (.lst [.tup []])), none, none, none] S ⟨[[]], ls, 0, none, rfl, rfl, rfl, fun l hl => ⟨h1 l hl, h2 l hl⟩, by simpa using hp, by omega, fun r hr => by rw [List.mem_singleton.mp hr]; exact Nat.le_refl _, rfl⟩
  have er : rest = [] := by
    cases rest with
    | nil => rfl
    | cons a b => cases e1
  subst er
  have e3' : found = belowL [[]] ls := e3
  subst e3' e2
  rw [e5] at e
  have e0 : startSl 5 [.lst (ls.map .int)] = [some (.val (.lst (ls.map .int))), none, none, none, none] := rfl
  have z1 : (1 : Nat) ≤ sizeLine := by decide
  unfold sem_all_below m_all_below
  rw [semOf_ap, e0]
  simp [mFor, iterD, e, z1]
theorem HouseOk.lims {h : House} (ok : HouseOk h) : (∀ l ∈ limits h, 1 ≤ l) ∧ (∀ l ∈ limits h, l ≤ 60) ∧ prodI (limits h) ≤ 600 ∧ (limits h).length ≤ 50 := by
  refine ⟨fun l hl => ?_, fun l hl => ?_, ok.pr, by unfold limits; rw [List.length_map]; have := ok.le; omega⟩
  · obtain ⟨p, hp, rfl⟩ := List.mem_map.mp hl
    exact ok.lo p hp
  · obtain ⟨p, hp, rfl⟩ := List.mem_map.mp hl
    exact ok.hi p hp
theorem p_all_ages {h : House} (ok : HouseOk h) : sem_all_ages [hD h] κs S = some (.ok (.lst ((allA h).map agD)) S) := by
  obtain ⟨a1, a2, a3, a4⟩ := ok.lims
  have hl : ∀ κs, sem_limits_in [hD h] κs S = some (.ok (.lst ((limits h).map .int)) S) := fun κs => by
    have := p_limits_in (κs := κs) (S := S) h
    unfold limits
    rw [List.map_map]
    exact this
  have hb : ∀ κs, sem_all_below [.lst ((limits h).map .int)] κs S = some (.ok (.lst ((allA h).map agD)) S) := fun κs => p_all_below (limits h) a1 a2 a3 a4
  simp [sem_all_ages, m_all_ages, startSl, hl, hb]
end k76
set_option linter.all false
set_option autoImplicit false
set_option maxRecDepth 100000
namespace k76
open Lk PySem
variable {κs : List Lk.Sem} {S : Sto}
theorem below_inv : ∀ {h : House} {a : Ages}, Below (limits h) a → a.length = h.length ∧ (∀ n ∈ a, 0 ≤ n) ∧ ∀ q ∈ a.zip h, q.1 < q.2.2
  | [], _, .nil => by simp
  | p :: h, _, .cons (n := n) (t := t) h0 h1 hb => by
    obtain ⟨a1, a2, a3⟩ := below_inv (h := h) hb
    refine ⟨by simp [a1], fun m hm => ?_, fun q hq => ?_⟩
    · rcases List.mem_cons.mp hm with rfl | hm
      · exact h0
      · exact a2 m hm
    · rw [List.zip_cons_cons] at hq
      rcases List.mem_cons.mp hq with rfl | hq
      · exact h1
      · exact a3 q hq
theorem belowL_inv : ∀ {ls : List Int} {found : List Ages} {x : Ages}, x ∈ belowL found ls → ∃ row ∈ found, ∃ t, x = row ++ t ∧ Below ls t
  | [], found, x, h => ⟨x, h, [], by simp, .nil⟩
  | l :: ls, found, x, h => by
    obtain ⟨row, hrow, t, rfl, hb⟩ := belowL_inv (ls := ls) h
    obtain ⟨r0, hr0, hr⟩ := List.mem_flatMap.mp hrow
    obtain ⟨i, hi, rfl⟩ := List.mem_map.mp hr
    have := List.mem_range.mp hi
    exact ⟨r0, hr0, (i : Int) :: t, by simp, .cons (by omega) (by omega) hb⟩
theorem allA_ok {h : House} {a : Ages} (ha : a ∈ allA h) : AgesOk h a := by
  obtain ⟨row, hrow, t, rfl, hb⟩ := belowL_inv ha
  rw [List.mem_singleton.mp hrow, List.nil_append]
  obtain ⟨a1, a2, a3⟩ := below_inv hb
  exact ⟨a1, a2, a3⟩
end k76
set_option linter.all false
set_option autoImplicit false
set_option maxRecDepth 100000
namespace k76
open Lk PySem
variable {κs : List Lk.Sem} {S : Sto}
/-- a rule led from these ages never breaks -/
def ringB (h : House) (w : Way) (a : Ages) : Bool := match sem_led_by [hD h, agD a, .str w.s] [] [] with
  | some (.ok (.tup [_, .int _]) _) => true
  | _ => false
theorem p_kept {h : House} (ok : HouseOk h) (w : Way) : sem_kept_by_rule [hD h, .str w.s] κs S = some (.ok (.int (((allA h).filter (ringB h w)).length : Nat)) S) := by
  have h1 : ∀ κs, sem_check_house [hD h] κs S = some (.ok .non S) := fun κs => p_check_house ok
  have h2 : ∀ κs, sem_check_way [.str w.s] κs S = some (.ok .non S) := fun κs => p_check_way w
  have h3 : ∀ κs, sem_all_ages [hD h] κs S = some (.ok (.lst ((allA h).map agD)) S) := fun κs => p_all_ages ok
  have hc : ∀ v : Ev, v.sl = [some (.val (hD h)), some (.val (.str w.s)), none] → mComp (mIt (mFn sem_all_ages [] (mCons (mVar 0) mNil))) (.nm 2) [2] (mIsNT false (mIxS (mFn sem_led_by [] (mCons (mVar 0) (mCons (mVar 2) (mCons (mVar 1) mNil)))) (mRet (.int 1)))) (mVar 2) v S =
      some (.ok (((allA h).filter (ringB h w)).map agD) S) := by
    intro v hv
    refine mComp_ok (ds := (allA h).map agD) (S1 := S) (by simp [hv, h3, iterD]) ?_
    have q := compL_map (t := .nm 2) (vs := [2]) (v := v) (S := S) (mt := mIsNT false (mIxS (mFn sem_led_by [] (mCons (mVar 0) (mCons (mVar 2) (mCons (mVar 1) mNil)))) (mRet (.int 1)))) (me := mVar 2) agD (ringB h w) agD (allA h) [] (fun a ha => by
      refine ⟨[some (.val (hD h)), some (.val (.str w.s)), some (.val (agD a))], by rw [hv]; rfl, ?_, fun _ => rfl⟩
      obtain ⟨n, l, hn, hh⟩ := p_led_by ok (allA_ok ha) w
      rcases hh with ⟨he, hl⟩ | ⟨k, hk, he, hl⟩
      · have hr : ringB h w a = false := by unfold ringB; rw [hl [] []]
        simp [hl, ixS, ixD, L2.atI, L2.ixN, D.isNon, hr]
      · have hr : ringB h w a = true := by unfold ringB; rw [hl [] []]
        simp [hl, ixS, ixD, L2.atI, L2.ixN, D.isNon, hr])
    simpa using q
  simp [sem_kept_by_rule, m_kept_by_rule, startSl, mDrop_ap, h1, h2]
  rw [hc _ rfl]
  simp [lenD]
end k76
set_option linter.all false
set_option autoImplicit false
set_option maxRecDepth 100000
namespace k76
open Lk PySem
variable {κs : List Lk.Sem}
/-! ### draws -/
def wellD (a b c : Int) : Ob := .lst [.int a, .int b, .int c]
structure Well (S : Sto) (k : Nat) (a b c : Int) : Prop where
  at_ : S[k]? = some (wellD a b c)
  lo : 0 ≤ b
  hi : b < 2147483563
theorem setOb_0 (a b c x : Int) : setOb (wellD a b c) (.int 0) (.int x) = some (wellD x b c) := rfl
theorem setOb_1 (a b c x : Int) : setOb (wellD a b c) (.int 1) (.int x) = some (wellD a x c) := rfl
theorem setOb_2 (a b c x : Int) : setOb (wellD a b c) (.int 2) (.int x) = some (wellD a b x) := rfl
theorem ixS_0 {S : Sto} {k : Nat} {a b c : Int} (h : S[k]? = some (wellD a b c)) : ixS S (.obj k) (.int 0) = some (.int a) := by
  simp only [ixS, h]; rfl
theorem ixS_1 {S : Sto} {k : Nat} {a b c : Int} (h : S[k]? = some (wellD a b c)) : ixS S (.obj k) (.int 1) = some (.int b) := by
  simp only [ixS, h]; rfl
theorem ixS_2 {S : Sto} {k : Nat} {a b c : Int} (h : S[k]? = some (wellD a b c)) : ixS S (.obj k) (.int 2) = some (.int c) := by
  simp only [ixS, h]; rfl
/-- what a draw leaves: the well k, else all -/
structure Drawn (S S' : Sto) (k : Nat) : Prop where
  w : ∃ a b c, Well S' k a b c
  len : S'.length = S.length
  oth : ∀ j, j ≠ k → S'[j]? = S[j]?
theorem drawn_big {S : Sto} {k : Nat} {a b c L : Int} (w : Well S k a b c) (ha : 0 < a) (h0 : 0 < L) (h1 : L < 1073741824) : sem__law_draw [.obj k, .int L] κs S = some (.ok (.int (a % L)) (S.set k (wellD (a / L) b c))) := by
  have dm : divmodD [.int a, .int L] = some (.tup [.int (a / L), .int (a % L)]) := by
    show (if 0 < L ∧ L < 1073741824 then _ else _) = _
    rw [if_pos ⟨h0, h1⟩]
  have g : gtD (.int a) (.int 0) = some true := by
    show some (decide (0 < a)) = _
    rw [decide_eq_true ha]
  simp [sem__law_draw, m__law_draw, startSl, ixS_0 w.at_, g, mPutT, dm, mHas, putN, w.at_, setOb_0]
def stirI (b c : Int) : Int := (b * 40037 + 13001 * (c + 1) + 7) % 2147483563
def nextB (b c : Int) : Int := (stirI b c * (stirI b c % 5009 + 20023) + (c + 1)) % 2147483563
theorem small_lt {i : Int} (h0 : 0 ≤ i) (h1 : i < 2147483563) : small i = true := by
  unfold small
  simp
  omega
theorem modD_ok {i j : Int} (h : 0 < j) : modD (.int i) (.int j) = some (.int (i % j)) := by
  show (if 0 < j then _ else _) = _
  rw [if_pos h]
theorem mulD_l {i j : Int} (h : small i = true) : mulD (.int i) (.int j) = some (.int (i * j)) := by
  show (if mulOk i j then _ else _) = _
  unfold mulOk
  rw [h]; rfl
theorem drawn_small {S : Sto} {k : Nat} {a b c L : Int} (w : Well S k a b c) (ha : ¬ 0 < a) (h0 : 0 < L) : sem__law_draw [.obj k, .int L] κs S = some (.ok (.int (nextB b c / 1013 % L)) (S.set k (wellD a (nextB b c) (c + 1)))) := by
  have hk : k < S.length := (List.getElem?_eq_some_iff.mp w.at_).1
  have g : gtD (.int a) (.int 0) = some false := by
    show some (decide (0 < a)) = _
    rw [decide_eq_false ha]
  have s1 : (S.set k (wellD a b (c + 1)))[k]? = some (wellD a b (c + 1)) := List.getElem?_set_self hk
  have s2 : (S.set k (wellD a (nextB b c) (c + 1)))[k]? = some (wellD a (nextB b c) (c + 1)) := List.getElem?_set_self hk
  have m1 : mulD (.int b) (.int 40037) = some (.int (b * 40037)) := mulD_l (small_lt w.lo w.hi)
  have m2 : mulD (.int 13001) (.int (c + 1)) = some (.int (13001 * (c + 1))) := mulD_l (by decide)
  have st0 : 0 ≤ stirI b c ∧ stirI b c < 2147483563 := by unfold stirI; omega
  have m3 : mulD (.int (stirI b c)) (.int (stirI b c % 5009 + 20023)) = some (.int (stirI b c * (stirI b c % 5009 + 20023))) := mulD_l (small_lt st0.1 st0.2)
  have d1 : fdivD (.int (nextB b c)) (.int 1013) = some (.int (nextB b c / 1013)) := by
    have q : (0 : Int) < 1013 ∧ (1013 : Int).natAbs.log2 < 9000 := by decide
    simp only [fdivD]
    rw [if_pos q]
  have e1 : modD (.int (b * 40037 + 13001 * (c + 1) + 7)) (.int 2147483563) = some (.int (stirI b c)) := modD_ok (by decide)
  have e2 : modD (.int (stirI b c)) (.int 5009) = some (.int (stirI b c % 5009)) := modD_ok (by decide)
  have e3 : modD (.int (stirI b c * (stirI b c % 5009 + 20023) + (c + 1))) (.int 2147483563) = some (.int (nextB b c)) := modD_ok (by decide)
  have e4 : modD (.int (nextB b c / 1013)) (.int L) = some (.int (nextB b c / 1013 % L)) := modD_ok h0
  simp [sem__law_draw, m__law_draw, startSl, ixS_0 w.at_, ixS_2 w.at_, g, mPut, mHas, putN, w.at_, setOb_2, addD, s1, s2, ixS_1 s1, ixS_2 s1, ixS_1 s2, m1, m2, m3, intD, e1, e2, e3, e4, setOb_1, d1]
end k76
set_option linter.all false
set_option autoImplicit false
set_option maxRecDepth 100000
namespace k76
open Lk PySem PySem.Spec PyProof.Rows L2 NdefX
variable {κs : List Lk.Sem}
/-! ### wells: two of them, at the start of the store -/
def Wl (S : Sto) : Prop := ∀ k, k < 2 → ∃ a b c, Well S k a b c
theorem p_draw {S : Sto} (w : Wl S) {k : Nat} (hk : k < 2) {L : Int} (h0 : 0 < L) (h1 : L < 1073741824) :
    ∃ (n : Int) (S' : Sto), (∀ κs, sem__law_draw [.obj k, .int L] κs S = some (.ok (.int n) S')) ∧ 0 ≤ n ∧ n < L ∧ Wl S' := by
  obtain ⟨a, b, c, W⟩ := w k hk
  have hl : k < S.length := (List.getElem?_eq_some_iff.mp W.at_).1
  have keep : ∀ x y z, 0 ≤ y → y < 2147483563 → Wl (S.set k (wellD x y z)) := by
    intro x y z h1 h2 j hj
    by_cases e : k = j
    · subst e; exact ⟨x, y, z, List.getElem?_set_self hl, h1, h2⟩
    · obtain ⟨a', b', c', W'⟩ := w j hj
      exact ⟨a', b', c', by rw [List.getElem?_set_ne e]; exact W'.at_, W'.lo, W'.hi⟩
  by_cases ha : 0 < a
  · exact ⟨a % L, _, fun κs => drawn_big W ha h0 h1, Int.emod_nonneg _ (by omega), Int.emod_lt_of_pos _ h0, keep _ _ _ W.lo W.hi⟩
  · have nb : 0 ≤ nextB b c ∧ nextB b c < 2147483563 := by unfold nextB; constructor <;> omega
    exact ⟨_, _, fun κs => drawn_small W ha h0, Int.emod_nonneg _ (by omega), Int.emod_lt_of_pos _ h0, keep _ _ _ nb.1 nb.2⟩
theorem p_of {S : Sto} (w : Wl S) {k : Nat} (hk : k < 2) {ds : List D} (h0 : ds ≠ []) (h1 : ds.length < 1073741824) :
    ∃ d S', (∀ κs, sem__law_of [.obj k, .tup ds] κs S = some (.ok d S')) ∧ d ∈ ds ∧ Wl S' := by
  obtain ⟨n, S', e, n0, n1, w'⟩ := p_draw w hk (L := ds.length) (by have := List.length_pos_iff.mpr h0; omega) (by omega)
  obtain ⟨m, rfl⟩ := Int.eq_ofNat_of_zero_le n0
  have hn : m < ds.length := by omega
  have hat : L2.atI ds m = some ds[m] := atI_at _ _ hn
  refine ⟨ds[m], S', fun κs => ?_, List.getElem_mem hn, w'⟩
  simp [sem__law_of, m__law_of, startSl, lenD, e, ixS, ixD, hat]
theorem p_ofS {S : Sto} (w : Wl S) {k : Nat} (hk : k < 2) : ∃ c S', (∀ κs, sem__law_of [.obj k, .str letters] κs S = some (.ok (.str ⟨#[c]⟩) S')) ∧ c ∈ letters.cps.toList ∧ Wl S' := by
  obtain ⟨n, S', e, n0, n1, w'⟩ := p_draw w hk (L := 26) (by decide) (by decide)
  have hl : letters.cps.toList.length = 26 := by decide +kernel
  obtain ⟨m, rfl⟩ := Int.eq_ofNat_of_zero_le n0
  have hn : m < letters.cps.toList.length := by omega
  have hat : L2.atI letters.cps.toList m = some letters.cps.toList[m] := atI_at _ _ hn
  have hlen : (letters.length : Int) = 26 := by decide +kernel
  refine ⟨_, S', fun κs => ?_, List.getElem_mem hn, w'⟩
  have e' : sem__law_draw [.obj k, .int letters.length] = sem__law_draw [.obj k, .int 26] := by rw [hlen]
  simp [sem__law_of, m__law_of, startSl, lenD, e', e, ixS, ixD, hat]
/-! ### names -/
theorem lst_of {α : Type} (F : α → D) (p : α → Prop) : ∀ {out : List D}, (∀ x ∈ out, ∃ i, x = F i ∧ p i) → ∃ ls : List α, out = ls.map F ∧ ∀ l ∈ ls, p l
  | [], _ => ⟨[], rfl, fun _ h => by cases h⟩
  | d :: out, h => by
    obtain ⟨i, rfl, hi⟩ := h d List.mem_cons_self
    obtain ⟨ls, rfl, hl⟩ := lst_of F p fun x hx => h x (List.mem_cons_of_mem _ hx)
    refine ⟨i :: ls, rfl, fun l hm => ?_⟩
    rcases List.mem_cons.mp hm with rfl | hm
    · exact hi
    · exact hl l hm
theorem cutL_take {α : Type} (xs : List α) (n : Nat) : cutL xs none (some (n : Int)) = xs.take n := by
  unfold cutL
  rw [HT.sIx_none, HT.sIx_nat]
  simp [List.take_eq_take_iff]
theorem cutL_drop {α : Type} (xs : List α) (n : Nat) : cutL xs (some (n : Int)) none = xs.drop n := by
  unfold cutL
  rw [HT.sIx_none, HT.sIx_nat]
  rcases Nat.le_total n xs.length with h | h
  · rw [Nat.min_eq_left h]
    exact List.take_of_length_le (by simp)
  · rw [Nat.min_eq_right h]
    simp [List.drop_eq_nil_of_le h]
theorem app_cps (a b : Str) : (a ++ b).cps.toList = a.cps.toList ++ b.cps.toList := by
  show (a.cps ++ b.cps).toList = _
  simp
theorem app_len (a b : Str) : (a ++ b).length = a.length + b.length := by
  rw [str_len, str_len, str_len, app_cps, List.length_append]
theorem sz1000 : 1000 ≤ sizeLine := by decide
theorem addD_str (a b : Str) (h : a.length + b.length ≤ 1000) : addD (.str a) (.str b) = some (.str (a ++ b)) := by
  have := sz1000
  show (if a.length + b.length ≤ sizeLine then _ else _) = _
  rw [if_pos (by omega)]
theorem one_len (c : Nat) : (⟨#[c]⟩ : Str).length = 1 := rfl
theorem rng1_nat (n : Nat) (h : n ≤ 16777216) : rng1D (.int (n : Int)) = some ((List.range n).map fun (i : Nat) => D.int (i : Int)) := by
  rw [rng1_ok (by omega) (by omega), rng1_map, Int.toNat_natCast]
def words1 : List D := (words.take 22).map .str
def words2 : List D := (words.drop 22).map .str
theorem splitD_of {a b : Str} {xs : List Str} (h1 : (b.length == 0) = false) (h2 : a.length ≤ 1000) (h3 : Txt.split a b = xs) (h4 : (xs.all fun x => PyData.strOk x && decide (x.length ≤ 1000)) = true) : splitD (.str a) [.str b] = some (.lst (xs.map .str)) := by
  have z := sz1000
  have z2 : 1002 ≤ sizeLine := by decide
  subst h3
  show (if _ then _ else _) = _
  rw [if_pos]
  refine ⟨h1, by omega, ?_⟩
  rw [List.all_eq_true] at h4 ⊢
  intro x hx
  have q := h4 x hx
  rw [Bool.and_eq_true, decide_eq_true_iff] at q ⊢
  exact ⟨q.1, by omega⟩
theorem split1 : splitD (.str "add ages all at away by doors due every from house keep kept leave limit look lost may miss must none of") [.str " "] = some (.lst words1) :=
  splitD_of (xs := words.take 22) (by decide +kernel) (by decide +kernel) (by decide +kernel) (by decide +kernel)
theorem split2 : splitD (.str "place rest round row times to with") [.str " "] = some (.lst words2) :=
  splitD_of (xs := words.drop 22) (by decide +kernel) (by decide +kernel) (by decide +kernel) (by decide +kernel)
end k76
set_option linter.all false
set_option autoImplicit false
set_option maxRecDepth 100000
namespace k76
open Lk PySem
variable {κs : List Lk.Sem}
/-! ### names drawn -/
theorem words_all : words1 ++ words2 = words.map D.str := by
  unfold words1 words2
  rw [← List.map_append, List.take_append_drop]
theorem addD_words : addD (.lst words1) (.lst words2) = some (.lst (words.map .str)) := by
  rw [← words_all]
  rfl
structure Pre (x : Str) (n : Nat) : Prop where
  ch : ∀ c ∈ x.cps.toList, c ∈ letters.cps.toList
  len : x.length ≤ n
theorem Pre.ok {x : Str} {n : Nat} (h : Pre x n) : PyData.strOk x = true := strOk_any x fun c hc => by
  have q : ∀ c ∈ letters.cps.toList, c < 0x110000 := by decide +kernel
  exact q c (h.ch c hc)
theorem Pre.add {x y : Str} {n m : Nat} (h : Pre x n) (h' : Pre y m) : Pre (x ++ y) (n + m) := by
  refine ⟨fun c hc => ?_, by rw [app_len]; have := h.len; have := h'.len; omega⟩
  rw [app_cps] at hc
  rcases List.mem_append.mp hc with hc | hc
  · exact h.ch c hc
  · exact h'.ch c hc
theorem pre_one {c : Nat} (h : c ∈ letters.cps.toList) : Pre ⟨#[c]⟩ 1 := ⟨fun d hd => by
  have : d = c := by simpa using hd
  rw [this]; exact h, Nat.le_refl _⟩
def atL (i : Nat) : Nat := letters.cps.toList.getD i 0
theorem atL_mem {i : Nat} (h : i < 26) : atL i ∈ letters.cps.toList := by
  have hl : letters.cps.toList.length = 26 := by decide +kernel
  unfold atL
  rw [getD_lt _ _ _ (by omega)]
  exact List.getElem_mem _
theorem letters_nodup : ∀ i < 26, ∀ j < 26, atL i = atL j → i = j := by decide +kernel
theorem ix_letters {i : Nat} (h : i < 26) : ixD (.str letters) (.int (i : Int)) = some (.str ⟨#[atL i]⟩) := by
  have hl : letters.cps.toList.length = 26 := by decide +kernel
  have q : L2.atI letters.cps.toList (i : Int) = some (atL i) := by
    rw [atI_at _ _ (by omega)]
    unfold atL
    rw [getD_lt _ _ _ (by omega)]
  simp [ixD, q]
/-- a name that ends with the letter i -/
structure Nm (x : Str) (i : Nat) : Prop where
  ok : NameOk x
  last : x.cps.toList.getLast? = some (atL i)
theorem mem_words (x : Str) : memD false (.str x) (.lst (words.map .str)) = some (decide (x ∈ words)) := memD_lst cod_str (by decide) x words false
theorem q_name : ∀ i < 26, (⟨#[113]⟩ ++ ⟨#[atL i]⟩ : Str) ∉ words := by decide +kernel
theorem strq : ("q" : Str) = ⟨#[113]⟩ := by decide +kernel
theorem Nm.ne {x y : Str} {i j : Nat} (hi : i < 26) (hj : j < 26) (h : Nm x i) (h' : Nm y j) (hij : i ≠ j) : x ≠ y := by
  intro z
  subst z
  have := h.last.symm.trans h'.last
  exact hij (letters_nodup i hi j hj (Option.some.inj this))
theorem nm_of {x : Str} {i : Nat} (hi : i < 26) (h : Pre x 7) : Nm (if x ++ ⟨#[atL i]⟩ ∈ words then ⟨#[113]⟩ ++ ⟨#[atL i]⟩ else x ++ ⟨#[atL i]⟩) i := by
  have one := pre_one (atL_mem hi)
  have last : ∀ y : Str, (y ++ ⟨#[atL i]⟩ : Str).cps.toList.getLast? = some (atL i) := fun y => by rw [app_cps]; simp
  have ne : ∀ y : Str, (y ++ ⟨#[atL i]⟩ : Str).cps.toList ≠ [] := fun y => by rw [app_cps]; simp
  split
  · have hq : Pre ⟨#[113]⟩ 1 := pre_one (by decide +kernel)
    have h2 := hq.add one
    exact ⟨⟨ne _, h2.ch, by have := h2.len; omega, q_name i hi⟩, last _⟩
  · rename_i hw
    have h2 := h.add one
    exact ⟨⟨ne _, h2.ch, h2.len, hw⟩, last _⟩
theorem sorted_ok : ∀ {xs : List Str}, strsD (xs.map .str) = some xs
  | [] => rfl
  | x :: xs => by
    show (strsD (xs.map .str)).map _ = _
    rw [sorted_ok]; rfl
structure Names (xs : List Str) : Prop where
  nm : ∀ x ∈ xs, NameOk x
  asc : xs.Pairwise fun a b => ltS a b = true
theorem names_sorted {F : List Str} (h : ∀ (i : Nat) x, F[i]? = some x → Nm x i) (hl : F.length ≤ 26) : Names (sortS F) := by
  have perm := sortS_perm F
  have nd : F.Nodup := by
    rw [List.nodup_iff_pairwise_ne, List.pairwise_iff_getElem]
    intro i j hi hj hij
    exact (h i _ (List.getElem?_eq_getElem hi)).ne (by omega) (by omega) (h j _ (List.getElem?_eq_getElem hj)) (by omega)
  refine ⟨fun x hx => ?_, ?_⟩
  · obtain ⟨i, hi⟩ := List.mem_iff_getElem?.mp (perm.mem_iff.mp hx)
    exact (h i x hi).ok
  · have nd2 := (perm.nodup_iff).mpr nd
    refine List.Pairwise.imp₂ (fun a b h1 h2 => ?_) (sortS_pw F) (List.nodup_iff_pairwise_ne.mp nd2)
    have h1' : a.cps.toList ≤ b.cps.toList := h1
    unfold ltS
    rw [decide_eq_true_iff]
    rcases List.le_iff_lt_or_eq.mp h1' with g | g
    · exact g
    · exact absurd (by
        cases a with
        | mk x =>
          cases b with
          | mk y =>
            congr 1
            exact Array.toList_inj.mp g) h2
theorem p_names {S : Sto} (w : Wl S) {k : Nat} (hk : k < 2) {many : Nat} (hm : many ≤ 26) {E : Exc → Sto → Prop} :
    WE (sem__law_names [.obj k, .int many] κs S) (fun d S' => ∃ xs, d = .tup (xs.map .str) ∧ xs.length = many ∧ Names xs ∧ Wl S') E := by
  have z5 : (5 : Nat) ≤ sizeLine := by decide
  have z0 : (0 : Nat) ≤ sizeLine := by decide
  unfold sem__law_names m__law_names
  simp -dsimp [z0, D.isK, split1, split2, addD_words]
  refine WS_for (fun ds S' => ds = ((List.range many).map fun (i : Nat) => D.int (i : Int)) ∧ S' = S) (fun ds sl S' => ∃ (i : Nat) (F : List Str) (x6 x7 x5 : Option Sl), ds = ((List.range many).map fun (i : Nat) => D.int (i : Int)).drop i ∧ i ≤ many ∧ F.length = i ∧ (∀ (i : Nat) x, F[i]? = some x → Nm x i) ∧ Wl S' ∧
    sl = [some (.val (.obj k)), some (.val (.int many)), some (.own (.lst (F.map .str))), some (.val (.str letters)), some (.val (.lst (words.map .str))), x5, x6, x7]) ?_ ?_ ?_ ?_
  · simp [rng1_nat many (by omega)]
    exact .mk ⟨rfl, rfl⟩
  · rintro ds S1 ⟨rfl, rfl⟩
    exact ⟨0, [], none, none, none, rfl, by omega, rfl, fun i x h => by simp at h, w, rfl⟩
  · rintro d ds sl S1 ⟨i, F, x6, x7, x5, e1, hi, hF, hN, w1, rfl⟩
    have hlt : i < many := by
      rcases Nat.lt_or_ge i many with q | q
      · exact q
      · rw [List.drop_eq_nil_of_le (by simpa using q)] at e1; cases e1
    rw [List.drop_eq_getElem_cons (by simpa using hlt)] at e1
    obtain ⟨rfl, rfl⟩ := List.cons.inj e1
    simp -dsimp
    refine WS_for (fun ds S' => ∃ n : Nat, n ≤ 7 ∧ ds = ((List.range n).map fun (i : Nat) => D.int (i : Int)) ∧ Wl S') (fun ds sl S' => ∃ (x : Str) (x7 : Option Sl), Pre x (7 - ds.length) ∧ ds.length ≤ 7 ∧ Wl S' ∧
      sl = [some (.val (.obj k)), some (.val (.int many)), some (.own (.lst (F.map .str))), some (.val (.str letters)), some (.val (.lst (words.map .str))), some (.val (.int i)), some (.val (.str x)), x7]) ?_ ?_ ?_ ?_
    · simp -dsimp [z5]
      obtain ⟨d, S2, e, hd, w2⟩ := p_of w1 hk (ds := [.int 0, .int 1, .int 2, .int 3, .int 7]) (by simp) (by simp)
      simp [e]
      have : ∃ n : Nat, n ≤ 7 ∧ d = .int n := by
        simp at hd
        rcases hd with rfl | rfl | rfl | rfl | rfl
        · exact ⟨0, by omega, rfl⟩
        · exact ⟨1, by omega, rfl⟩
        · exact ⟨2, by omega, rfl⟩
        · exact ⟨3, by omega, rfl⟩
        · exact ⟨7, by omega, rfl⟩
      obtain ⟨n, hn, rfl⟩ := this
      simp [rng1_nat n (by omega)]
      exact .mk ⟨n, hn, rfl, w2⟩
    · rintro ds S2 ⟨n, hn, rfl, w2⟩
      refine ⟨"", _, ⟨fun c hc => (List.not_mem_nil hc).elim, Nat.zero_le _⟩, by simpa using hn, w2, rfl⟩
    · rintro d ds sl S2 ⟨x, x7, px, hl, w2, rfl⟩
      simp -dsimp
      obtain ⟨c, S3, e, hc, w3⟩ := p_ofS w2 hk
      rw [List.length_cons] at px hl
      have px2 := px.add (pre_one hc)
      have l1 := px.len
      simp -dsimp [e, addD_str x ⟨#[c]⟩ (by rw [one_len]; omega)]
      refine .mk ⟨_, _, by have := px2; rwa [show 7 - (ds.length + 1) + 1 = 7 - ds.length by omega] at this, by omega, w3, rfl⟩
    · rintro sl S2 ⟨x, x7, px, _, w2, rfl⟩
      have l1 := px.len
      simp at l1
      have h26 : i < 26 := by omega
      have nm := nm_of h26 (x := x) px
      have ix : ixS S2 (.str letters) (.int (i : Int)) = some (.str ⟨#[atL i]⟩) := ix_letters h26
      have o1 : (⟨#[atL i]⟩ : Str).length = 1 := rfl
      have z : F.length < sizeLine := by have := sz1000; omega
      simp -dsimp [ix, addD_str x ⟨#[atL i]⟩ (by omega), mem_words, strq, addD_str ⟨#[113]⟩ ⟨#[atL i]⟩ (by rw [one_len, one_len]; decide)]
      have fin : ∀ y, Nm y i → ∀ (i_1 : Nat) (x : Str), (F ++ [y])[i_1]? = some x → Nm x i_1 := fun y hy j x' h => by
        rcases Nat.lt_or_ge j F.length with q | q
        · rw [List.getElem?_append_left q] at h
          exact hN j x' h
        · rw [List.getElem?_append_right q] at h
          have : j = F.length := by
            have := (List.getElem?_eq_some_iff.mp h).1
            simp at this
            omega
          subst this
          simp at h
          rw [← h, hF]; exact hy
      refine WI.dec (fun hw => ?_) fun hw => ?_
      · rw [if_pos hw] at nm
        simp -dsimp [z, ix, strq, addD_str ⟨#[113]⟩ ⟨#[atL i]⟩ (by rw [one_len, one_len]; decide)]
        exact .mk ⟨i + 1, F ++ [_], _, _, _, rfl, by omega, by simp [hF], fin _ nm, w2, by rw [List.map_append]; rfl⟩
      · rw [if_neg hw] at nm
        simp -dsimp [z, ix, strq, addD_str ⟨#[113]⟩ ⟨#[atL i]⟩ (by rw [one_len, one_len]; decide)]
        exact .mk ⟨i + 1, F ++ [_], _, _, _, rfl, by omega, by simp [hF], fin _ nm, w2, by rw [List.map_append]; rfl⟩
  · rintro sl S1 ⟨i, F, x6, x7, x5, e1, hi, hF, hN, w1, rfl⟩
    have ei : i = many := by
      have := congrArg List.length e1
      simp at this
      omega
    subst ei
    have so : sortedD [.lst (F.map .str)] = some (.lst ((sortS F).map .str)) := by
      show (match strsD (F.map .str) with
        | some zs => if zs.length < 64 then some (D.lst ((sortS zs).map D.str)) else none
        | none => none) = _
      rw [sorted_ok]
      show (if F.length < 64 then _ else _) = _
      rw [if_pos (by omega)]
    simp -dsimp [so]
    exact ⟨sortS F, rfl, by rw [(sortS_perm F).length_eq, hF], names_sorted hN (by omega), w1⟩
end k76
set_option linter.all false
set_option autoImplicit false
set_option maxRecDepth 100000
namespace k76
open Lk PySem PySem.Spec PyProof.Rows L2 NdefX
variable {κs : List Lk.Sem}
/-! ### houses drawn -/
def limRows : List (List Int) := [[2, 4, 4], [2, 3], [3, 3, 3], [2, 3, 6], [1, 1], [2, 2], [4, 4, 5], [1], [2, 4, 5]]
def L6 (l : Int) : Prop := 1 ≤ l ∧ l ≤ 6
theorem limRows_ok : ∀ ls ∈ limRows, ls ≠ [] ∧ ls.length ≤ 3 ∧ ∀ l ∈ ls, L6 l := by unfold L6; decide
def tupI (ls : List Int) : D := .tup (ls.map .int)
theorem prodI_snoc (ls : List Int) (l : Int) : prodI (ls ++ [l]) = prodI ls * l := by
  induction ls with
  | nil => simp [prodI]
  | cons a ls ih => simp [prodI, ih, Int.mul_assoc]
theorem rng1_drop {n i : Nat} {d : D} {ds : List D} (e : d :: ds = ((List.range n).map fun (i : Nat) => D.int (i : Int)).drop i) : i < n ∧ d = .int (i : Int) ∧ ds = ((List.range n).map fun (i : Nat) => D.int (i : Int)).drop (i + 1) := by
  have hlt : i < n := by
    rcases Nat.lt_or_ge i n with q | q
    · exact q
    · rw [List.drop_eq_nil_of_le (by simpa using q)] at e; cases e
  rw [List.drop_eq_getElem_cons (by simpa using hlt)] at e
  obtain ⟨e1, e2⟩ := List.cons.inj e
  exact ⟨hlt, by rw [e1]; simp, e2⟩
theorem rng1_end {n i : Nat} (e : [] = ((List.range n).map fun (i : Nat) => D.int (i : Int)).drop i) (h : i ≤ n) : i = n := by
  have := congrArg List.length e
  simp at this
  omega
structure Drew (h : House) (most room : Int) : Prop where
  ok : HouseOk h
  len : (h.length : Int) ≤ most
  lim : ∀ p ∈ h, L6 p.2
  pr : prodI (limits h) ≤ room
theorem p_house {S : Sto} (w : Wl S) {k : Nat} (hk : k < 2) {most room : Nat} (m1 : 1 ≤ most) (m2 : most ≤ 6) (r1 : 6 ≤ room) (r2 : room ≤ 600) {E : Exc → Sto → Prop} :
    WE (sem__law_house [.obj k, .int most, .int room] κs S) (fun d S' => ∃ h, d = hD h ∧ Drew h most room ∧ Wl S') E := by
  have z9 : (9 : Nat) ≤ sizeLine := by decide
  have z0 : (0 : Nat) ≤ sizeLine := by decide
  have z1 : (1 : Nat) ≤ sizeLine := by decide
  have z2 : (2 : Nat) ≤ sizeLine := by decide
  have z3 : (3 : Nat) ≤ sizeLine := by decide
  unfold sem__law_house m__law_house
  have dl : ∀ ls : List Int, cutD (tupI ls) none (some (most : Int)) = some (tupI (ls.take most)) := fun ls => by
    unfold tupI
    show some (D.tup (cutL (ls.map D.int) none (some (most : Int)))) = _
    rw [cutL_take, List.map_take]
  refine WE_semOf.mpr (WS.cut (fun sl S' => ∃ ls : List Int, ls ≠ [] ∧ (∀ l ∈ ls, L6 l) ∧ Wl S' ∧ sl = [some (.val (.obj k)), some (.val (.int most)), some (.val (.int room)), some (.val (tupI ls)), none, none, none, none, none, none]) ?_ ?_)
  · obtain ⟨d, S1, e, hd, w1⟩ := p_of w hk (ds := limRows.map tupI) (by simp [limRows]) (by simp [limRows])
    obtain ⟨ls, hls, rfl⟩ := List.mem_map.mp hd
    simp -dsimp [limRows, tupI] at e
    simp -dsimp [z9, z0, z1, z2, z3, e]
    exact .mk ⟨ls, (limRows_ok ls hls).1, (limRows_ok ls hls).2.2, w1, rfl⟩
  rintro sl S1 ⟨ls, h1, h2, w1, rfl⟩
  refine WS.cut (fun sl S' => ∃ ls : List Int, ls ≠ [] ∧ (∀ l ∈ ls, L6 l) ∧ Wl S' ∧ sl = [some (.val (.obj k)), some (.val (.int most)), some (.val (.int room)), some (.val (tupI ls)), none, none, none, none, none, none]) ?_ ?_
  · obtain ⟨n, S2, e2, n0, n1, w2⟩ := p_draw w1 hk (L := 2) (by decide) (by decide)
    simp -dsimp [e2]
    refine WI.dec (fun _ => ?_) fun _ => ?_
    · simp -dsimp
      refine WE_comp (fun ds S' => ∃ n : Nat, ds = ((List.range (1 + n)).map fun (i : Nat) => D.int (i : Int)) ∧ Wl S') (fun ds acc S' => ∃ ls : List Int, acc = ls.map .int ∧ (∀ l ∈ ls, L6 l) ∧ (ls ≠ [] ∨ ds ≠ []) ∧ Wl S') ?_ ?_ ?_ ?_
      · obtain ⟨n, S3, e3, n0, n1, w3⟩ := p_draw w2 hk (L := most) (by omega) (by omega)
        obtain ⟨m, rfl⟩ := Int.eq_ofNat_of_zero_le n0
        have r := rng1_nat (1 + m) (by omega)
        rw [Int.natCast_add] at r
        have r' : rng1D (.int (1 + (m : Int))) = _ := r
        simp -dsimp [e3, r']
        exact .mk ⟨m, rfl, w3⟩
      · rintro ds S3 ⟨n, rfl, w3⟩
        exact ⟨[], rfl, fun l hl => (List.not_mem_nil hl).elim, .inr (by simp), w3⟩
      · rintro d ds acc S3 ⟨ls, rfl, hl, _, w3⟩
        obtain ⟨n, S4, e4, n0, n1, w4⟩ := p_draw w3 hk (L := 6) (by decide) (by decide)
        simp -dsimp [e4]
        refine .mk ⟨ls ++ [1 + n], by rw [List.map_append]; rfl, fun l hm => ?_, .inl (by simp), w4⟩
        rcases List.mem_append.mp hm with hm | hm
        · exact hl l hm
        · rw [List.mem_singleton.mp hm]
          exact ⟨by omega, by omega⟩
      · rintro acc S3 ⟨ls, rfl, hl, hne, w3⟩
        simp -dsimp
        exact .mk ⟨ls, by simpa using hne, hl, w3, rfl⟩
    · simp -dsimp
      exact .mk ⟨ls, h1, h2, w2, rfl⟩
  rintro sl S2 ⟨ls, h1, h2, w2, rfl⟩
  simp -dsimp [z0, z1, z2]
  refine WS_for (fun ds S' => ds = (ls.take most).map .int ∧ S' = S2) (fun ds sl S' => ∃ (i : Nat) (fs : List Int) (x6 : Option Sl), ds = ((ls.take most).drop i).map .int ∧ i ≤ (ls.take most).length ∧ fs.length ≤ i ∧ (0 < i → fs ≠ []) ∧ (∀ l ∈ fs, L6 l) ∧ prodI fs ≤ room ∧ Wl S' ∧
    sl = [some (.val (.obj k)), some (.val (.int most)), some (.val (.int room)), some (.val (tupI ls)), some (.val (.lst (fs.map .int))), some (.val (.int (prodI fs))), x6, none, none, none]) ?_ ?_ ?_ ?_
  · simp -dsimp [dl ls]
    exact WO.use rfl (.mk ⟨rfl, rfl⟩)
  · rintro ds S3 ⟨rfl, rfl⟩
    exact ⟨0, [], none, rfl, Nat.zero_le _, Nat.le_refl _, fun h => absurd h (by omega), fun l hl => (List.not_mem_nil hl).elim, by show (1 : Int) ≤ room; omega, w2, rfl⟩
  · rintro d ds sl S3 ⟨i, fs, x6, e1, hi, f1, f2, f3, f4, w3, rfl⟩
    have hlt : i < (ls.take most).length := by
      rcases Nat.lt_or_ge i (ls.take most).length with q | q
      · exact q
      · rw [List.drop_eq_nil_of_le q] at e1; cases e1
    rw [List.drop_eq_getElem_cons hlt, List.map_cons] at e1
    obtain ⟨rfl, rfl⟩ := List.cons.inj e1
    have hl : L6 (ls.take most)[i] := h2 _ (List.mem_of_mem_take (List.getElem_mem hlt))
    obtain ⟨l, el⟩ : ∃ l, l = (ls.take most)[i] := ⟨_, rfl⟩
    rw [← el] at hl ⊢
    have p1 := prodI_pos fun n hn => (f3 n hn).1
    have ml := mulD_l (i := prodI fs) (j := l) (small_of (by omega) (by omega))
    have sz := sz1000
    have lm : (ls.take most).length ≤ most := by rw [List.length_take]; exact Nat.min_le_left _ _
    have al : addD (.lst (fs.map .int)) (.lst [.int l]) = some (.lst ((fs ++ [l]).map .int)) := by
      rw [List.map_append]
      show (if (fs.map D.int).length + 1 ≤ sizeLine then _ else _) = _
      rw [if_pos (by rw [List.length_map]; omega)]
      rfl
    simp -dsimp [ml]
    refine WI.dec (fun hr => ?_) fun hr => ?_
    · simp -dsimp [ml, al, z1, z2]
      refine .mk ⟨i + 1, fs ++ [l], _, rfl, hlt, by simp; omega, fun _ => by simp, fun m hm => ?_, by rw [prodI_snoc]; exact hr, w3, by rw [prodI_snoc, List.map_append]; rfl⟩
      rcases List.mem_append.mp hm with hm | hm
      · exact f3 m hm
      · rw [List.mem_singleton.mp hm]; exact hl
    · simp -dsimp
      refine .mk ⟨i + 1, fs, _, rfl, hlt, by omega, fun _ => ?_, f3, f4, w3, rfl⟩
      cases i with
      | zero =>
        have : fs = [] := List.length_eq_zero_iff.mp (by omega)
        subst this
        refine absurd ?_ hr
        have := hl.2
        show 1 * l ≤ (room : Int)
        omega
      | succ i => exact f2 (by omega)
  rintro sl S3 ⟨i, fs, x6, e1, hi, f1', f2', f3, f4, w3, rfl⟩
  have lm : (ls.take most).length ≤ most := by rw [List.length_take]; exact Nat.min_le_left _ _
  have f2 : fs.length ≤ most := by omega
  have f1 : fs ≠ [] := f2' (by
    have q := congrArg List.length e1
    simp at q
    have : 0 < ls.length := List.length_pos_iff.mpr h1
    rcases Nat.lt_or_ge 0 i with q' | q'
    · exact q'
    · have : i = 0 := by omega
      subst this
      omega)
  refine WS.cut (fun sl S' => ∃ xs : List Str, xs.length = fs.length ∧ Names xs ∧ Wl S' ∧ sl = [some (.val (.obj k)), some (.val (.int most)), some (.val (.int room)), some (.val (tupI ls)), some (.val (.lst (fs.map .int))), some (.val (.int (prodI fs))), x6, some (.val (.tup (xs.map .str))), none, none]) ?_ ?_
  · simp -dsimp
    refine (p_names w3 hk (many := fs.length) (by omega)).use ?_
    rintro d S4 ⟨xs, rfl, hl, hn, w4⟩
    exact .mk ⟨xs, hl, hn, w4, rfl⟩
  rintro sl S4 ⟨xs, x1, hn, w4, rfl⟩
  simp -dsimp
  refine WE_comp_all (fun (i : Nat) => D.int (i : Int)) (fun i => prD (xs.getD i "", fs.getD i 0)) (List.range fs.length) ?_ (fun i hi => ?_) ?_
  · simp -dsimp [rng1_nat fs.length (by omega)]
  · have hi' := List.mem_range.mp hi
    have a1 : ixS S4 (.tup (xs.map .str)) (.int (i : Int)) = some (.str (xs.getD i "")) := by
      show L2.atI (xs.map D.str) (i : Int) = _
      rw [atI_at _ i (by rw [List.length_map]; omega), getD_lt _ _ _ (by omega)]; simp
    have a2 : ixS S4 (.lst (fs.map .int)) (.int (i : Int)) = some (.int (fs.getD i 0)) := by
      show L2.atI (fs.map D.int) (i : Int) = _
      rw [atI_at _ i (by rw [List.length_map]; omega), getD_lt _ _ _ (by omega)]; simp
    simp -dsimp [a1, a2, z2]
    rfl
  · simp -dsimp
    obtain ⟨h, eh⟩ : ∃ h : House, h = (List.range fs.length).map fun i => (xs.getD i "", fs.getD i 0) := ⟨_, rfl⟩
    have hl : h.length = fs.length := by rw [eh]; simp
    have at_ : ∀ (i : Nat) (hi : i < h.length), h[i] = (xs.getD i "", fs.getD i 0) := fun i hi => by subst eh; simp
    have e1 : h.map (·.1) = xs := by
      refine List.ext_getElem (by rw [List.length_map, hl, x1]) fun i a b => ?_
      rw [List.getElem_map, at_ i (by simpa using a)]
      exact getD_lt _ _ _ b
    have e2 : h.map (·.2) = fs := by
      refine List.ext_getElem (by rw [List.length_map, hl]) fun i a b => ?_
      rw [List.getElem_map, at_ i (by simpa using a)]
      exact getD_lt _ _ _ b
    have mx : ∀ p ∈ h, p.1 ∈ xs := fun p hp => by rw [← e1]; exact List.mem_map.mpr ⟨p, hp, rfl⟩
    have mf : ∀ p ∈ h, p.2 ∈ fs := fun p hp => by rw [← e2]; exact List.mem_map.mpr ⟨p, hp, rfl⟩
    refine ⟨h, ?_, ⟨⟨?_, by omega, fun p hp => hn.nm _ (mx p hp), fun p hp => (f3 _ (mf p hp)).1, fun p hp => by have := (f3 _ (mf p hp)).2; omega, fun i hi => ?_, by rw [e2]; omega⟩, by omega, fun p hp => f3 _ (mf p hp), by unfold limits; rw [e2]; exact f4⟩, w4⟩
    · rw [eh, hD, List.map_map]; rfl
    · have := List.length_pos_iff.mpr f1
      omega
    · have q := List.pairwise_iff_getElem.mp hn.asc i (i + 1) (by omega) (by omega) (by omega)
      rw [at_ i (by omega), at_ (i + 1) hi]
      rw [← getD_lt xs i "" (by omega), ← getD_lt xs (i + 1) "" (by omega)] at q
      exact q
/-! ### ages drawn -/
theorem p_ages {S : Sto} (w : Wl S) {k : Nat} (hk : k < 2) {h : House} (ok : HouseOk h) {E : Exc → Sto → Prop} :
    WE (sem__law_ages [.obj k, hD h] κs S) (fun d S' => ∃ a, d = agD a ∧ AgesOk h a ∧ Wl S') E := by
  unfold sem__law_ages m__law_ages
  simp -dsimp
  refine WE_comp (fun ds S' => ds = h.map prD ∧ S' = S) (fun ds acc S' => ∃ (h1 h2 : House) (a : Ages), h = h1 ++ h2 ∧ ds = h2.map prD ∧ acc = a.map .int ∧ AgesOk h1 a ∧ Wl S') ?_ ?_ ?_ ?_
  · simp -dsimp [hD]
    exact .mk ⟨rfl, rfl⟩
  · rintro ds S1 ⟨rfl, rfl⟩
    exact ⟨[], h, [], rfl, rfl, rfl, ⟨rfl, fun n hn => (List.not_mem_nil hn).elim, fun q hq => (List.not_mem_nil hq).elim⟩, w⟩
  · rintro d ds acc S1 ⟨h1, h2, a, e1, e2, rfl, oa, w1⟩
    cases h2 with
    | nil => cases e2
    | cons p h2 =>
      cases e2
      have l1 := ok.lo p (by rw [e1]; simp)
      have l2 := ok.hi p (by rw [e1]; simp)
      obtain ⟨n, S2, e3, n0, n1, w2⟩ := p_draw w1 hk (L := p.2) (by omega) (by omega)
      simp -dsimp [prD, e3]
      refine .mk ⟨h1 ++ [p], h2, a ++ [n], by rw [e1]; simp, rfl, by rw [List.map_append]; rfl, ⟨by simp [oa.len], fun m hm => ?_, fun q hq => ?_⟩, w2⟩
      · rcases List.mem_append.mp hm with hm | hm
        · exact oa.lo m hm
        · rw [List.mem_singleton.mp hm]; exact n0
      · rw [List.zip_append oa.len] at hq
        rcases List.mem_append.mp hq with hq | hq
        · exact oa.hi q hq
        · simp at hq
          rw [hq]; exact n1
  · rintro acc S1 ⟨h1, h2, a, e1, e2, rfl, oa, w1⟩
    have : h2 = [] := by
      cases h2 with
      | nil => rfl
      | cons => cases e2
    subst this
    rw [List.append_nil] at e1
    subst e1
    simp -dsimp
    exact ⟨a, rfl, oa, w1⟩
end k76
set_option linter.all false
set_option autoImplicit false
set_option maxRecDepth 100000
namespace k76
open Lk PySem PySem.Spec PyProof.Rows L2 NdefX
variable {κs : List Lk.Sem} {S : Sto} {E : Exc → Sto → Prop}
theorem cod_ag : Cod agD 1 := cod_tup cod_int
theorem z1' : (1 : Nat) ≤ sizeLine := by decide
theorem z2' : (2 : Nat) ≤ sizeLine := by decide
theorem z0' : (0 : Nat) ≤ sizeLine := by decide
theorem ix_tup0 (x : D) (xs : List D) : ixS S (.tup (x :: xs)) (.int 0) = some x := by
  simp [ixS, ixD, L2.atI, L2.ixN]
theorem ix_tup1 (x y : D) (xs : List D) : ixS S (.tup (x :: y :: xs)) (.int 1) = some y := by
  show L2.atI (x :: y :: xs) ((1 : Nat) : Int) = _
  rw [atI_at _ 1 (by simp)]; rfl
theorem ix_tupN (xs : List D) (i : Nat) (h : i < xs.length) : ixS S (.tup xs) (.int (i : Int)) = some xs[i] := by
  show L2.atI xs (i : Int) = _
  exact atI_at _ _ h
theorem ix_lstN (xs : List D) (i : Nat) (h : i < xs.length) : ixS S (.lst xs) (.int (i : Int)) = some xs[i] := by
  show L2.atI xs (i : Int) = _
  exact atI_at _ _ h
theorem ix_hD (h : House) (i : Nat) (hi : i < h.length) : ixS S (hD h) (.int (i : Int)) = some (prD h[i]) := by
  rw [hD, ix_tupN _ _ (by simpa using hi)]; simp
theorem ix_agD (a : Ages) (i : Nat) (hi : i < a.length) : ixS S (agD a) (.int (i : Int)) = some (.int a[i]) := by
  rw [agD, ix_tupN _ _ (by simpa using hi)]; simp
theorem ix_pr0 (p : Str × Int) : ixS S (prD p) (.int 0) = some (.str p.1) := ix_tup0 _ _
theorem ix_pr1 (p : Str × Int) : ixS S (prD p) (.int 1) = some (.int p.2) := ix_tup1 _ _ _
def places (h : House) : List Str := h.map (·.1)
def looks (h : House) : List Str := "" :: places h
theorem q_places (h : House) : sem__law_places [hD h] κs S = some (.ok (.tup ((places h).map .str)) S) := by
  refine WE.eq ?_
  unfold sem__law_places m__law_places
  simp -dsimp
  refine WE_comp_all prD (fun p => .str p.1) h ?_ (fun p hp => ?_) ?_
  · simp -dsimp [hD]
  · simp -dsimp [ix_pr0]
  · simp -dsimp [places]
theorem addD_tup (a b : List D) (h : a.length + b.length ≤ 1000) : addD (.tup a) (.tup b) = some (.tup (a ++ b)) := by
  have := sz1000
  show (if a.length + b.length ≤ sizeLine then _ else _) = _
  rw [if_pos (by omega)]
theorem addD_lst (a b : List D) (h : a.length + b.length ≤ 1000) : addD (.lst a) (.lst b) = some (.lst (a ++ b)) := by
  have := sz1000
  show (if a.length + b.length ≤ sizeLine then _ else _) = _
  rw [if_pos (by omega)]
theorem q_looks (h : House) (hl : h.length ≤ 100) : sem__law_looks [hD h] κs S = some (.ok (.tup ((looks h).map .str)) S) := by
  refine WE.eq ?_
  unfold sem__law_looks m__law_looks
  have e := addD_tup [.str ""] ((places h).map .str) (by simp [places]; omega)
  simp -dsimp [z1', q_places, e]
  rfl
theorem q_nothing (h : House) (h0 : h ≠ []) (hl : h.length ≤ 100) : sem__law_nothing [hD h] κs S = some (.ok (agD (List.replicate h.length 0)) S) := by
  refine WE.eq ?_
  unfold sem__law_nothing m__law_nothing
  have e : mulD (.tup [.int 0]) (.int (h.length : Int)) = some (agD (List.replicate h.length 0)) := by
    have := List.length_pos_iff.mpr h0
    show (if _ then _ else _) = _
    rw [if_pos ⟨by simp, by omega, by omega, by simp⟩]
    simp [agD]
  simp -dsimp [z1', e]
/-! ### ages behind a look -/
theorem stepA_len {h : House} {a : Ages} (look : Str) (l : a.length = h.length) : (stepA h a look).length = h.length := by
  unfold stepA
  rw [List.length_zipWith, l, Nat.min_self]
theorem stepA_at {h : House} {a : Ages} (look : Str) (l : a.length = h.length) (i : Nat) (hi : i < h.length) (hi' : i < (stepA h a look).length) : (stepA h a look)[i] = if h[i].1 = look then 0 else a[i] + 1 := by
  simp [stepA]
theorem keeps_iff {h : House} {b : Ages} (l : b.length = h.length) : keeps h b = true ↔ ∀ (i : Nat) (hi : i < h.length), b[i] < h[i].2 := by
  unfold keeps
  rw [List.all_eq_true]
  constructor
  · intro q i hi
    have m : (b.zip (h.map (·.2)))[i]'(by rw [List.length_zip, List.length_map]; omega) ∈ b.zip (h.map (·.2)) := List.getElem_mem _
    have := q _ m
    rw [decide_eq_true_iff] at this
    simpa using this
  · intro q x hx
    obtain ⟨i, hi, rfl⟩ := List.getElem_of_mem hx
    rw [decide_eq_true_iff]
    have := q i (by rw [List.length_zip, List.length_map] at hi; omega)
    simpa using this
theorem q_behind {h : House} {a : Ages} (look : Str) (l : a.length = h.length) (hl : h.length ≤ 100) : sem__law_behind [hD h, agD a, .str look] κs S = some (.ok (optD (nextA h a look)) S) := by
  refine WE.eq ?_
  unfold sem__law_behind m__law_behind
  simp -dsimp [z0']
  obtain ⟨b, eb⟩ : ∃ b, b = stepA h a look := ⟨_, rfl⟩
  have lb : b.length = h.length := by rw [eb]; exact stepA_len look l
  have nxt : nextA h a look = if keeps h b then some b else none := by rw [eb]; rfl
  refine WS_for (fun ds S' => ds = ((List.range h.length).map fun (i : Nat) => D.int (i : Int)) ∧ S' = S) (fun ds sl S' => ∃ (i : Nat) (x4 x5 : Option Sl), ds = ((List.range h.length).map fun (i : Nat) => D.int (i : Int)).drop i ∧ i ≤ h.length ∧ (∀ (j : Nat) (hj : j < h.length), j < i → b[j] < h[j].2) ∧ S' = S ∧
    sl = [some (.val (hD h)), some (.val (agD a)), some (.val (.str look)), some (.val (agD (b.take i))), x4, x5]) ?_ ?_ ?_ ?_
  · simp -dsimp [rng1_nat h.length (by omega)]
    exact .mk ⟨rfl, rfl⟩
  · rintro ds S1 ⟨rfl, rfl⟩
    exact ⟨0, none, none, rfl, Nat.zero_le _, fun j _ hj => absurd hj (by omega), rfl, rfl⟩
  · rintro d ds sl S1 ⟨i, x4, x5, e1, hi, hk, rfl, rfl⟩
    obtain ⟨hlt, rfl, rfl⟩ := rng1_drop e1
    have hb := stepA_at look l i hlt (by rw [stepA_len look l]; exact hlt)
    have hb' : b[i] = if h[i].1 = look then 0 else a[i] + 1 := by subst eb; exact hb
    have fin : WE ((mIf (mCmpT eqD (mIxS (mIxS (mBor 0) (mVar 4)) (mRet (.int 0))) (mBor 2)) (mRet (.int 0)) (mOp2 addD (mIxS (mBor 1) (mVar 4)) (mRet (.int 1)))) ⟨[some (.val (hD h)), some (.val (agD a)), some (.val (.str look)), some (.val (agD (b.take i))), some (.val (.int i)), x5], κs⟩ S1) (fun d S' => d = .int b[i] ∧ S' = S1) (fun _ _ => False) := by
      simp -dsimp [ix_hD h i hlt, ix_pr0, ix_agD a i (by omega)]
      rw [hb']
      refine WI.dec (fun e => ?_) fun e => ?_
      · simp -dsimp [e]
      · simp -dsimp [e, ix_agD a i (by omega)]
    obtain ⟨_, _, fe, rfl, rfl⟩ := fin.get
    simp -dsimp only [bindT_nm, WO_some, WS_seq, WS_set, List.set_cons_zero, List.set_cons_succ]
    refine WE.of fe ?_
    simp -dsimp [ix_hD h i hlt, ix_pr1]
    refine WI.dec (fun ge => ?_) fun ge => ?_
    · simp -dsimp
      have : keeps h b = false := by
        rw [← Bool.not_eq_true, keeps_iff lb]
        intro q
        have := q i hlt
        omega
      rw [nxt, this]
      rfl
    · have ad : addD (agD (b.take i)) (.tup [.int b[i]]) = some (agD (b.take (i + 1))) := by
        have q : b.take (i + 1) = b.take i ++ [b[i]] := List.take_succ_eq_append_getElem (by omega)
        unfold agD
        rw [addD_tup _ _ (by simp; omega), q, List.map_append]
        rfl
      simp -dsimp [z1', ad]
      refine .mk ⟨i + 1, _, _, rfl, hlt, fun j hj hji => ?_, rfl, rfl⟩
      rcases Nat.lt_or_ge j i with q | q
      · exact hk j hj q
      · have : j = i := by omega
        subst this
        omega
  · rintro sl S1 ⟨i, x4, x5, e1, hi, hk, rfl, rfl⟩
    have ei := rng1_end e1 hi
    subst ei
    simp -dsimp
    have : keeps h b = true := (keeps_iff lb).mpr fun i hi => hk i hi hi
    rw [nxt, this]
    rw [show b.take h.length = b from List.take_of_length_le (by omega)]
    rfl
end k76
set_option linter.all false
set_option autoImplicit false
set_option maxRecDepth 100000
namespace k76
open Lk PySem PySem.Spec PyProof.Rows L2 NdefX
variable {κs : List Lk.Sem} {S : Sto} {E : Exc → Sto → Prop}
theorem drop_cons' {α : Type} {F : α → D} {xs : List α} {i : Nat} {d : D} {ds : List D} (e : d :: ds = (xs.drop i).map F) : ∃ hlt : i < xs.length, d = F xs[i] ∧ ds = (xs.drop (i + 1)).map F := by
  have hlt : i < xs.length := by
    rcases Nat.lt_or_ge i xs.length with q | q
    · exact q
    · rw [List.drop_eq_nil_of_le q] at e; cases e
  rw [List.drop_eq_getElem_cons hlt, List.map_cons] at e
  obtain ⟨e1, e2⟩ := List.cons.inj e
  exact ⟨hlt, e1, e2⟩
theorem drop_end' {α : Type} {F : α → D} {xs : List α} {i : Nat} (e : [] = (xs.drop i).map F) (h : i ≤ xs.length) : i = xs.length := by
  have := congrArg List.length e
  simp at this
  omega
theorem stepL_snoc (r : List Ages) (x : Ages) (l : Int) : stepL (r ++ [x]) l = stepL r l ++ (List.range l.toNat).map fun (i : Nat) => x ++ [(i : Int)] := by
  unfold stepL
  rw [List.flatMap_append]
  simp
theorem belowL_snoc : ∀ (ls : List Int) (l : Int) (found : List Ages), belowL found (ls ++ [l]) = stepL (belowL found ls) l
  | [], l, found => rfl
  | m :: ls, l, found => by
    show belowL (stepL found m) (ls ++ [l]) = _
    rw [belowL_snoc ls l]; rfl
theorem belowL_row : ∀ {ls : List Int} {r : Ages}, r ∈ belowL [[]] ls → r.length = ls.length := by
  intro ls r hr
  obtain ⟨row, hrow, t, rfl, hb⟩ := belowL_inv hr
  rw [List.mem_singleton.mp hrow, List.nil_append]
  clear hr hrow
  induction hb with
  | nil => rfl
  | cons _ _ _ ih => simp [ih]
theorem prodI_le {a b : List Int} (ha : ∀ n ∈ a, 1 ≤ n) (hb : ∀ n ∈ b, 1 ≤ n) : prodI a ≤ prodI (a ++ b) ∧ prodI (a ++ b) = prodI a * prodI b := by
  have e : prodI (a ++ b) = prodI a * prodI b := by
    clear ha hb
    induction a with
    | nil => simp [prodI]
    | cons x a ih => simp [prodI, ih, Int.mul_assoc]
  have pa := prodI_pos ha
  have pb := prodI_pos hb
  refine ⟨?_, e⟩
  rw [e]
  have : prodI a * 1 ≤ prodI a * prodI b := Int.mul_le_mul_of_nonneg_left pb (by omega)
  omega
theorem q_all_ages {h : House} (ok : HouseOk h) : sem__law_all_ages [hD h] κs S = some (.ok (.lst ((allA h).map agD)) S) := by
  refine WE.eq ?_
  unfold sem__law_all_ages m__law_all_ages
  simp -dsimp [z0', z1']
  have lims := ok.lims
  refine WS_for (fun ds S' => ds = h.map prD ∧ S' = S) (fun ds sl S' => ∃ (i : Nat) (x2 x3 x4 x5 : Option Sl), ds = (h.drop i).map prD ∧ i ≤ h.length ∧ S' = S ∧
    sl = [some (.val (hD h)), some (.val (.lst ((belowL [[]] (limits (h.take i))).map agD))), x2, x3, x4, x5, none]) ?_ ?_ ?_ ?_
  · simp -dsimp [hD]
    exact .mk ⟨rfl, rfl⟩
  · rintro ds S1 ⟨rfl, rfl⟩
    exact ⟨0, none, none, none, none, rfl, Nat.zero_le _, rfl, rfl⟩
  · rintro d ds sl S1 ⟨i, x2, x3, x4, x5, e1, hi, rfl, rfl⟩
    obtain ⟨hlt, rfl, rfl⟩ := drop_cons' e1
    obtain ⟨p, ep⟩ : ∃ p, p = h[i] := ⟨_, rfl⟩
    obtain ⟨rows, er⟩ : ∃ rows, rows = belowL [[]] (limits (h.take i)) := ⟨_, rfl⟩
    rw [← ep, ← er]
    have hp : p ∈ h := by rw [ep]; exact List.getElem_mem hlt
    have p1 := ok.lo p hp
    have p2 := ok.hi p hp
    have tk : limits (h.take (i + 1)) = limits (h.take i) ++ [p.2] := by
      have q : h.take (i + 1) = h.take i ++ [h[i]] := List.take_succ_eq_append_getElem hlt
      unfold limits
      rw [q, List.map_append, ep]
      rfl
    have step : belowL [[]] (limits (h.take (i + 1))) = stepL rows p.2 := by rw [tk, belowL_snoc, er]
    have rl : ∀ r ∈ rows, r.length ≤ 6 := fun r hr => by
      rw [er] at hr
      rw [belowL_row hr]
      unfold limits
      rw [List.length_map, List.length_take]
      have := ok.le
      omega
    have total : ((stepL rows p.2).length : Int) ≤ 600 := by
      have e0 := belowL_len (limits (h.take (i + 1))) [[]] (fun l hl => by
        obtain ⟨q, hq, rfl⟩ := List.mem_map.mp hl
        have := ok.lo q (List.mem_of_mem_take hq)
        omega)
      rw [step] at e0
      have e2 : limits h = limits (h.take (i + 1)) ++ limits (h.drop (i + 1)) := by
        unfold limits
        rw [← List.map_append, List.take_append_drop]
      have le := (prodI_le (a := limits (h.take (i + 1))) (b := limits (h.drop (i + 1))) (fun n hn => lims.1 n (by rw [e2]; exact List.mem_append_left _ hn)) (fun n hn => lims.1 n (by rw [e2]; exact List.mem_append_right _ hn))).1
      rw [← e2] at le
      have := ok.pr
      simp at e0
      unfold limits at le e0
      omega
    simp -dsimp [prD, z0']
    refine WS_for (fun ds S' => ds = rows.map agD ∧ S' = S1) (fun ds sl S' => ∃ (j : Nat) (x5 : Option Sl), ds = (rows.drop j).map agD ∧ j ≤ rows.length ∧ S' = S1 ∧
      sl = [some (.val (hD h)), some (.val (.lst (rows.map agD))), some (.val (.str p.1)), some (.val (.int p.2)), some (.val (.lst ((stepL (rows.take j) p.2).map agD))), x5, none]) ?_ ?_ ?_ ?_
    · simp -dsimp
      exact .mk ⟨rfl, rfl⟩
    · rintro ds S2 ⟨rfl, rfl⟩
      exact ⟨0, x5, rfl, Nat.zero_le _, rfl, rfl⟩
    · rintro d ds sl S2 ⟨j, x5, e2, hj, rfl, rfl⟩
      obtain ⟨hlt2, rfl, rfl⟩ := drop_cons' e2
      obtain ⟨r, e3⟩ : ∃ r, r = rows[j] := ⟨_, rfl⟩
      rw [← e3]
      have hr : r ∈ rows := by rw [e3]; exact List.getElem_mem hlt2
      have hrl := rl r hr
      have tk2 : rows.take (j + 1) = rows.take j ++ [r] := by rw [e3]; exact List.take_succ_eq_append_getElem hlt2
      have st2 : stepL (rows.take (j + 1)) p.2 = stepL (rows.take j) p.2 ++ (List.range p.2.toNat).map fun (i : Nat) => r ++ [(i : Int)] := by rw [tk2, stepL_snoc]
      have b2 : (stepL (rows.take (j + 1)) p.2).length ≤ 600 := by
        have q : ((stepL (rows.take (j + 1)) p.2).length : Int) ≤ (stepL rows p.2).length := by
          rw [stepL_len _ _ (by omega), stepL_len _ _ (by omega)]
          refine Int.mul_le_mul_of_nonneg_right ?_ (by omega)
          rw [List.length_take]
          omega
        omega
      have rng : rng1D (.int p.2) = some ((List.range p.2.toNat).map fun (i : Nat) => D.int (i : Int)) := by
        rw [rng1_ok (by omega) (by omega), rng1_map]
      rw [st2, List.length_append] at b2
      have ad := addD_lst ((stepL (rows.take j) p.2).map agD) (((List.range p.2.toNat).map fun (i : Nat) => r ++ [(i : Int)]).map agD) (by rw [List.length_map, List.length_map]; omega)
      simp -dsimp
      refine WE_comp_all (fun (i : Nat) => D.int (i : Int)) (fun i => agD (r ++ [(i : Int)])) (List.range p.2.toNat) ?_ (fun n hn => ?_) ?_
      · simp -dsimp [rng]
      · have ad2 := addD_tup (r.map .int) [.int (n : Int)] (by simp; omega)
        have ad3 : addD (agD r) (.tup [.int (n : Int)]) = some (agD (r ++ [(n : Int)])) := by
          unfold agD
          rw [ad2, List.map_append]; rfl
        simp -dsimp [ad3, z1']
      · rw [List.map_map] at ad
        have ad' : addD (.lst ((stepL (rows.take j) p.2).map agD)) (.lst ((List.range p.2.toNat).map fun (i : Nat) => agD (r ++ [(i : Int)]))) = _ := ad
        simp -dsimp [ad']
        exact .mk ⟨j + 1, _, rfl, hlt2, rfl, by rw [st2, List.map_append, List.map_map]; rfl⟩
    · rintro sl S2 ⟨j, x5, e2, hj, rfl, rfl⟩
      have ej := drop_end' e2 hj
      subst ej
      simp -dsimp
      exact .mk ⟨i + 1, _, _, _, _, rfl, hlt, rfl, by rw [step, List.take_length]; rfl⟩
  · rintro sl S1 ⟨i, x2, x3, x4, x5, e1, hi, rfl, rfl⟩
    have ei := drop_end' e1 hi
    subst ei
    simp -dsimp
    rfl
/-! ### all ages are unlike -/
theorem stepL_nodup {rows : List Ages} {l : Int} (nd : rows.Nodup) : (stepL rows l).Nodup := by
  unfold stepL
  rw [List.nodup_iff_pairwise_ne, List.pairwise_flatMap]
  refine ⟨fun r hr => ?_, ?_⟩
  · rw [List.pairwise_map]
    refine List.Pairwise.imp (fun {i j} hij e => ?_) (List.nodup_iff_pairwise_ne.mp List.nodup_range)
    have := List.append_cancel_left e
    simp at this
    exact hij (Int.ofNat_inj.mp this)
  · refine List.Pairwise.imp (fun {r s} hrs x hx y hy e => ?_) (List.nodup_iff_pairwise_ne.mp nd)
    obtain ⟨i, _, rfl⟩ := List.mem_map.mp hx
    obtain ⟨j, _, rfl⟩ := List.mem_map.mp hy
    exact hrs (List.append_inj_left' e rfl)
theorem belowL_nodup : ∀ (ls : List Int) {rows : List Ages}, rows.Nodup → (belowL rows ls).Nodup
  | [], _, h => h
  | l :: ls, _, h => belowL_nodup ls (stepL_nodup h)
theorem allA_nodup (h : House) : (allA h).Nodup := belowL_nodup _ (by simp)
end k76
set_option linter.all false
set_option autoImplicit false
set_option maxRecDepth 100000
namespace k76
open Lk PySem PySem.Spec PyProof.Rows L2 NdefX
variable {κs : List Lk.Sem} {S : Sto} {E : Exc → Sto → Prop}
/-! ### dicts of ages -/
def kvA (f : Ages → D) (as : List Ages) : List (D × D) := as.map fun a => (agD a, f a)
theorem kind_kvA (f : Ages → D) (as : List Ages) (a : Ages) : kindOk (kvA f as) (.inr (akey a)) = true := by
  cases as with
  | nil => rfl
  | cons b as =>
    unfold kvA
    rw [List.map_cons]
    simp [kindOk, keyQ_ag]
theorem akey_dec (a b : Ages) : decide ((some (.inr (akey a)) : Option KQ) = some (.inr (akey b))) = decide (a = b) := by
  by_cases h : a = b
  · rw [h]; simp
  · have : akey a ≠ akey b := fun z => h (akey_inj z)
    simp [h, this]
theorem look_kvA (f : Ages → D) (as : List Ages) (a : Ages) : lookD (kvA f as) (agD a) = some (if a ∈ as then some (f a) else none) := by
  unfold lookD
  rw [keyQ_ag]
  simp only [kind_kvA, if_true]
  congr 1
  unfold findD kvA
  rw [List.find?_map]
  have e : ((fun kv : D × D => decide (keyQ kv.1 = some (.inr (akey a)))) ∘ fun b : Ages => (agD b, f b)) = fun b => decide (b = a) := by
    funext b
    show decide (keyQ (agD b) = some (.inr (akey a))) = _
    rw [keyQ_ag, akey_dec]
  rw [e]
  induction as with
  | nil => simp
  | cons b as ih =>
    by_cases h : b = a
    · subst h; simp
    · rw [List.find?_cons_of_neg (by simp [h])]
      rw [ih]
      have : (a ∈ b :: as) ↔ a ∈ as := by
        constructor
        · intro q
          rcases List.mem_cons.mp q with q | q
          · exact absurd q.symm h
          · exact q
        · exact List.mem_cons_of_mem _
      simp only [this]
theorem ix_kvA (f : Ages → D) (as : List Ages) (a : Ages) (h : a ∈ as) : ixS S (.dct (kvA f as)) (agD a) = some (f a) := by
  show (match lookD (kvA f as) (agD a) with
    | some (some d) => some d
    | _ => none) = _
  rw [look_kvA, if_pos h]
theorem mem_kvA (f : Ages → D) (as : List Ages) (a : Ages) : memD false (agD a) (.dct (kvA f as)) = some (decide (a ∈ as)) := by
  unfold memD
  have e : inD (agD a) (.dct (kvA f as)) = (lookD (kvA f as) (agD a)).map Option.isSome := rfl
  rw [e, look_kvA]
  by_cases h : a ∈ as <;> simp [h]
theorem set_kvA (f : Ages → D) (as : List Ages) (a : Ages) (h : a ∉ as) (hl : as.length ≤ 1000) : setOb (.dct (kvA f as)) (agD a) (f a) = some (.dct (kvA f (as ++ [a]))) := by
  show (match keyQ (agD a) with
    | some q => if kindOk (kvA f as) q ∧ (kvA f as).length < sizeLine then some (Ob.dct (setD (kvA f as) q (agD a) (f a))) else none
    | none => none) = _
  rw [keyQ_ag]
  have hz : (kvA f as).length < sizeLine := by
    unfold kvA
    rw [List.length_map]
    have : 1001 ≤ sizeLine := by decide
    omega
  show (if kindOk (kvA f as) (.inr (akey a)) ∧ (kvA f as).length < sizeLine then some (Ob.dct (setD (kvA f as) (.inr (akey a)) (agD a) (f a))) else none) = _
  rw [if_pos ⟨kind_kvA f as a, hz⟩]
  congr 2
  unfold setD
  have e : ((kvA f as).any fun kv => decide (keyQ kv.1 = some (.inr (akey a)))) = false := by
    rw [List.any_eq_false]
    intro kv hkv
    obtain ⟨b, hb, rfl⟩ := List.mem_map.mp hkv
    show ¬ (decide (keyQ (agD b) = some (.inr (akey a))) = true)
    rw [keyQ_ag, akey_dec, decide_eq_true_iff]
    intro z
    exact h (z ▸ hb)
  rw [e]
  simp [kvA]
/-! ### ways -/
def wayD (h : House) (a : Ages) (l : Str) : D := .tup [.str l, optD (nextA h a l)]
def waysL (h : House) (a : Ages) : D := .lst (((looks h).filter fun l => (nextA h a l).isSome).map (wayD h a))
theorem isNon_opt (o : Option Ages) : (optD o).isNon = !o.isSome := by cases o <;> rfl
theorem q_ways {h : House} (ok : HouseOk h) : sem__law_ways [hD h] κs S = some (.ok (.dct (kvA (waysL h) (allA h))) S) := by
  refine WE.eq ?_
  unfold sem__law_ways m__law_ways
  simp -dsimp
  have nd := allA_nodup h
  have al := allA_len ok
  refine WS_for (fun ds S' => ds = (allA h).map agD ∧ S' = S) (fun ds sl S' => ∃ (i : Nat) (x2 x3 : Option Sl), ds = ((allA h).drop i).map agD ∧ i ≤ (allA h).length ∧ S' = S ∧
    sl = [some (.val (hD h)), some (.own (.dct (kvA (waysL h) ((allA h).take i)))), x2, x3, none, none]) ?_ ?_ ?_ ?_
  · simp -dsimp [q_all_ages ok]
    exact .mk ⟨rfl, rfl⟩
  · rintro ds S1 ⟨rfl, rfl⟩
    exact ⟨0, none, none, rfl, Nat.zero_le _, rfl, rfl⟩
  · rintro d ds sl S1 ⟨i, x2, x3, e1, hi, rfl, rfl⟩
    obtain ⟨hlt, rfl, rfl⟩ := drop_cons' e1
    obtain ⟨a, ea⟩ : ∃ a, a = (allA h)[i] := ⟨_, rfl⟩
    rw [← ea]
    have oa := allA_ok (h := h) (a := a) (by rw [ea]; exact List.getElem_mem hlt)
    have tk : (allA h).take (i + 1) = (allA h).take i ++ [a] := by rw [ea]; exact List.take_succ_eq_append_getElem hlt
    have nin : a ∉ (allA h).take i := by
      intro hm
      have nd2 : ((allA h).take (i + 1)).Nodup := nd.sublist (List.take_sublist _ _)
      rw [tk, List.nodup_append] at nd2
      exact nd2.2.2 a hm a (List.mem_singleton.mpr rfl) rfl
    simp -dsimp
    refine WE_comp_all D.str (wayD h a) (looks h) ?_ (fun l hl => ?_) ?_
    · simp -dsimp [q_looks h (by have := ok.le; omega)]
    · simp -dsimp [q_behind l oa.len (by have := ok.le; omega), z2']
      rfl
    · simp -dsimp
      refine WE_comp_map (wayD h a) (fun l => (nextA h a l).isSome) (wayD h a) (looks h) ?_ (fun l hl => ?_) ?_
      · simp -dsimp
      · simp -dsimp [wayD, ix_tup1, isNon_opt]
      · simp -dsimp [putW, putR]
        refine WO.use (set_kvA (waysL h) _ a nin (by rw [List.length_take]; omega)) ?_
        exact .mk ⟨i + 1, _, _, rfl, hlt, rfl, by rw [tk]; rfl⟩
  · rintro sl S1 ⟨i, x2, x3, e1, hi, rfl, rfl⟩
    have ei := drop_end' e1 hi
    subst ei
    simp -dsimp
end k76
set_option linter.all false
set_option autoImplicit false
set_option maxRecDepth 100000
namespace k76
open Lk PySem PySem.Spec PyProof.Rows L2 NdefX
variable {κs : List Lk.Sem} {S : Sto} {E : Exc → Sto → Prop}
/-! ### safe ages -/
/-- a lot of ages from each of which a look leads back into it -/
def Closed (h : House) (C : Ages → Prop) : Prop := ∀ a, C a → a ∈ allA h ∧ ∃ l ∈ looks h, ∃ b, nextA h a l = some b ∧ C b
def intoL (h : House) (L : List Ages) (a : Ages) : Bool := (looks h).any fun l => match nextA h a l with
  | some b => decide (b ∈ L)
  | none => false
theorem intoL_of {h : House} {L : List Ages} {C : Ages → Prop} (cl : Closed h C) (hL : ∀ a, C a → a ∈ L) {a : Ages} (ha : C a) : intoL h L a = true := by
  obtain ⟨_, l, hl, b, e, hb⟩ := cl a ha
  unfold intoL
  rw [List.any_eq_true]
  exact ⟨l, hl, by rw [e]; exact decide_eq_true (hL b hb)⟩
theorem intoL_iff {h : House} {L : List Ages} {a : Ages} : intoL h L a = true ↔ ∃ l ∈ looks h, ∃ b, nextA h a l = some b ∧ b ∈ L := by
  unfold intoL
  rw [List.any_eq_true]
  constructor
  · rintro ⟨l, hl, e⟩
    cases q : nextA h a l with
    | none => rw [q] at e; cases e
    | some b => rw [q] at e; exact ⟨l, hl, b, q, of_decide_eq_true e⟩
  · rintro ⟨l, hl, b, e, hb⟩
    exact ⟨l, hl, by rw [e]; exact decide_eq_true hb⟩
theorem bls_true (f : Ages → D) : (fun a : Ages => (agD a, f a)) = fun a => (agD a, f a) := rfl
def trueD : Ages → D := fun _ => .bl true
theorem q_safe {h : House} (ok : HouseOk h) : WE (sem__law_safe [hD h] κs S) (fun d S' => ∃ L : List Ages, d = .lst (L.map agD) ∧ L ⊆ allA h ∧ (∀ C, Closed h C → ∀ a, C a → a ∈ L) ∧ S' = S) E := by
  have al := allA_len ok
  have nd := allA_nodup h
  have sz := sz1000
  unfold sem__law_safe m__law_safe
  have ls : listD2 [.dct (kvA (waysL h) (allA h))] = some (.lst ((allA h).map agD)) := by
    show some (D.lst ((kvA (waysL h) (allA h)).map (·.1))) = _
    unfold kvA
    rw [List.map_map]
    rfl
  simp -dsimp [q_ways ok, ls]
  refine WS_for (fun ds S' => S' = S) (fun ds sl S' => ∃ (L : List Ages) (x3 x4 x5 x6 : Option Sl), L ⊆ allA h ∧ L.Nodup ∧ (∀ C, Closed h C → ∀ a, C a → a ∈ L) ∧ S' = S ∧
    sl = [some (.val (hD h)), some (.val (.dct (kvA (waysL h) (allA h)))), some (.val (.lst (L.map agD))), x3, x4, x5, x6, none, none]) ?_ ?_ ?_ ?_
  · have r := rng1_nat ((allA h).length + 1) (by omega)
    rw [Int.natCast_succ] at r
    simp -dsimp [r]
    exact .mk rfl
  · rintro ds S1 rfl
    exact ⟨allA h, none, none, none, none, fun _ h => h, nd, fun C cl a ha => (cl a ha).1, rfl, rfl⟩
  · rintro d ds sl S1 ⟨L, x3, x4, x5, x6, sub, ndL, hC, rfl, rfl⟩
    have ll : L.length ≤ 600 := by
      have := List.Nodup.length_le_of_subset ndL sub
      omega
    simp -dsimp
    refine WS_for (fun ds S' => ds = L.map agD ∧ S' = S1) (fun ds sl S' => ∃ (i : Nat) (x5 : Option Sl), ds = (L.drop i).map agD ∧ i ≤ L.length ∧ S' = S1 ∧
      sl = [some (.val (hD h)), some (.val (.dct (kvA (waysL h) (allA h)))), some (.val (.lst (L.map agD))), some (.val d), some (.own (.dct (kvA trueD (L.take i)))), x5, x6, none, none]) ?_ ?_ ?_ ?_
    · simp -dsimp
      exact .mk ⟨rfl, rfl⟩
    · rintro ds S2 ⟨rfl, rfl⟩
      exact ⟨0, x5, rfl, Nat.zero_le _, rfl, rfl⟩
    · rintro d2 ds sl S2 ⟨i, x5, e1, hi, rfl, rfl⟩
      obtain ⟨hlt, rfl, rfl⟩ := drop_cons' e1
      obtain ⟨a, ea⟩ : ∃ a, a = L[i] := ⟨_, rfl⟩
      rw [← ea]
      have tk : L.take (i + 1) = L.take i ++ [a] := by rw [ea]; exact List.take_succ_eq_append_getElem hlt
      have nin : a ∉ L.take i := by
        intro hm
        have nd2 : (L.take (i + 1)).Nodup := ndL.sublist (List.take_sublist _ _)
        rw [tk, List.nodup_append] at nd2
        exact nd2.2.2 a hm a (List.mem_singleton.mpr rfl) rfl
      simp -dsimp [putW, putR]
      refine WO.use (set_kvA trueD _ a nin (by rw [List.length_take]; omega)) ?_
      exact .mk ⟨i + 1, _, rfl, hlt, rfl, by rw [tk]; rfl⟩
    · rintro sl S2 ⟨i, x5, e1, hi, rfl, rfl⟩
      have ei := drop_end' e1 hi
      subst ei
      rw [List.take_length]
      simp -dsimp
      refine WE_comp_map agD (intoL h L) agD L ?_ (fun a ha => ?_) ?_
      · simp -dsimp
      · have hw : ixS S2 (.dct (kvA (waysL h) (allA h))) (agD a) = some (waysL h a) := ix_kvA _ _ _ (sub ha)
        simp -dsimp
        refine WE_comp_map (wayD h a) (fun l => match nextA h a l with
          | some b => decide (b ∈ L)
          | none => false) (fun l => optD (nextA h a l)) ((looks h).filter fun l => (nextA h a l).isSome) ?_ (fun l hl => ?_) ?_
        · simp -dsimp [hw, waysL]
        · obtain ⟨_, hs⟩ := List.mem_filter.mp hl
          cases q : nextA h a l with
          | none => rw [q] at hs; cases hs
          | some b =>
            simp -dsimp [wayD, q, mem_kvA]
        · have e : ((((looks h).filter fun l => (nextA h a l).isSome).filter fun l => match nextA h a l with
            | some b => decide (b ∈ L)
            | none => false).map fun l => optD (nextA h a l)) = (((looks h).filter fun l => match nextA h a l with
            | some b => decide (b ∈ L)
            | none => false).map fun l => (nextA h a l).getD []).map agD := by
            rw [List.filter_filter, List.map_map]
            have e1 : ((looks h).filter fun l => (match nextA h a l with
              | some b => decide (b ∈ L)
              | none => false) && (nextA h a l).isSome) = (looks h).filter fun l => match nextA h a l with
              | some b => decide (b ∈ L)
              | none => false := by
              congr 1
              funext l
              cases nextA h a l <;> simp
            rw [e1]
            refine List.map_congr_left fun l hl => ?_
            obtain ⟨_, hs⟩ := List.mem_filter.mp hl
            cases q : nextA h a l with
            | none => rw [q] at hs; cases hs
            | some b => simp [q]
          rw [e]
          have ne := neD_cod (cod_lst cod_ag) (by decide) (((looks h).filter fun l => match nextA h a l with
            | some b => decide (b ∈ L)
            | none => false).map fun l => (nextA h a l).getD []) []
          have ne' : neD (.lst ((((looks h).filter fun l => match nextA h a l with
            | some b => decide (b ∈ L)
            | none => false).map fun l => (nextA h a l).getD []).map agD)) (.lst []) = _ := ne
          simp -dsimp only [WE_ok, WE_ls, WE_lst, WE_nil, List.length_nil, z0', true_and, ne', WO_some, WE_var, Lk.valAt]
          refine ⟨?_, fun _ => trivial⟩
          unfold intoL
          refine Bool.eq_iff_iff.mpr ?_
          rw [List.any_eq_true, Bool.not_eq_true', decide_eq_false_iff_not, List.map_eq_nil_iff, List.filter_eq_nil_iff]
          constructor
          · intro hn
            refine Classical.byContradiction fun hx => hn fun l hl hs => hx ⟨l, hl, hs⟩
          · rintro ⟨l, hl, hs⟩ hx
            exact hx l hl hs
      · simp -dsimp
        refine WI.of (fun _ => ?_) fun _ => ?_
        · simp -dsimp
          exact ⟨L, rfl, sub, hC⟩
        · simp -dsimp
          exact .mk ⟨L.filter (intoL h L), _, _, _, _, fun x hx => sub (List.mem_filter.mp hx).1, ndL.sublist List.filter_sublist, fun C cl a ha => List.mem_filter.mpr ⟨hC C cl a ha, intoL_of cl (hC C cl) ha⟩, rfl, rfl⟩
  · rintro sl S1 ⟨L, x3, x4, x5, x6, sub, ndL, hC, rfl, rfl⟩
    simp -dsimp
    exact ⟨L, rfl, sub, hC⟩
end k76
set_option linter.all false
set_option autoImplicit false
set_option maxRecDepth 100000
namespace k76
open Lk PySem PySem.Spec PyProof.Rows L2 NdefX
variable {κs : List Lk.Sem} {S : Sto} {E : Exc → Sto → Prop}
/-! ### gaps -/
def rowD (r : List Str) : D := .tup (r.map .str)
@[simp] theorem sl1_rowD (r : List Str) : sl1 (rowD r) = .val (rowD r) := rfl
theorem len_rowD (r : List Str) : lenD [rowD r] = some (.int r.length) := by simp [rowD]
theorem ix_rowD (r : List Str) (i : Nat) (hi : i < r.length) : ixS S (rowD r) (.int (i : Int)) = some (.str r[i]) := by
  rw [rowD, ix_tupN _ _ (by simpa using hi)]; simp
def ats (r : List Str) (x : Str) : List Nat := (List.range r.length).filter fun k => decide (r.getD k "" = x)
/-- the gap ahead of the k-th look -/
def gapK (at_ : List Nat) (n : Nat) (k : Nat) : Int := if 0 < k then (at_.getD k 0 : Int) - at_.getD (k - 1) 0 else (at_.getD 0 0 : Int) + n - at_.getD (at_.length - 1) 0
def gapsL (at_ : List Nat) (n : Nat) : List Int := (List.range at_.length).map (gapK at_ n)
def maxL : List Int → Int
  | [] => 0
  | x :: xs => xs.foldl max x
def gap (r : List Str) (x : Str) : Option Int := if ats r x = [] then none else some (maxL (gapsL (ats r x) r.length))
def optI : Option Int → D
  | none => .non
  | some i => .int i
def natD (n : Nat) : D := .int (n : Int)
theorem intsD_ok : ∀ (xs : List Int), intsD (xs.map .int) = some xs
  | [] => rfl
  | x :: xs => by
    show (intsD (xs.map .int)).map _ = _
    rw [intsD_ok]; rfl
theorem maxD_ok (xs : List Int) (h : xs ≠ []) : maxD [.lst (xs.map .int)] = some (.int (maxL xs)) := by
  cases xs with
  | nil => exact absurd rfl h
  | cons x xs =>
    show (intsD ((x :: xs).map .int)).bind (fun ns => (maxI ns).map D.int) = _
    rw [intsD_ok]; rfl
theorem ix_last {α : Type} (F : α → D) (xs : List α) (d : α) (h : xs ≠ []) : ixS S (.lst (xs.map F)) (.int (-1)) = some (F (xs.getD (xs.length - 1) d)) := by
  have hp := List.length_pos_iff.mpr h
  show L2.atI (xs.map F) (-1) = _
  unfold L2.atI L2.ixN
  rw [List.length_map]
  have e1 : ¬ (0 : Int) ≤ -1 := by decide
  have e2 : (0 : Int) ≤ -1 + xs.length := by omega
  have e3 : (-1 + (xs.length : Int)).toNat = xs.length - 1 := by omega
  simp [e1, e2, e3]
  have hz : 1 ≤ (xs.length : Int) := by omega
  simp [hz, List.getElem?_eq_getElem (show xs.length - 1 < xs.length by omega)]
theorem ix_natL (xs : List Nat) (i : Nat) (hi : i < xs.length) : ixS S (.lst (xs.map natD)) (.int (i : Int)) = some (.int (xs.getD i 0 : Nat)) := by
  rw [ix_lstN _ _ (by simpa using hi), getD_lt _ _ _ hi]; simp [natD]
theorem ats_lt {r : List Str} {x : Str} {k : Nat} (h : k ∈ ats r x) : k < r.length ∧ r.getD k "" = x := by
  obtain ⟨h1, h2⟩ := List.mem_filter.mp h
  exact ⟨List.mem_range.mp h1, of_decide_eq_true h2⟩
theorem q_gaps (h : House) (r : List Str) (hl : h.length ≤ 100) (rl : r.length ≤ 100000) : sem__law_gaps [hD h, rowD r] κs S = some (.ok (.lst ((places h).map fun x => optI (gap r x))) S) := by
  refine WE.eq ?_
  unfold sem__law_gaps m__law_gaps
  have sz := sz1000
  simp -dsimp [z0']
  refine WS_for (fun ds S' => ds = (places h).map .str ∧ S' = S) (fun ds sl S' => ∃ (i : Nat) (x3 x4 x5 : Option Sl), ds = ((places h).drop i).map .str ∧ i ≤ (places h).length ∧ S' = S ∧
    sl = [some (.val (hD h)), some (.val (rowD r)), some (.own (.lst (((places h).take i).map fun x => optI (gap r x)))), x3, x4, x5, none]) ?_ ?_ ?_ ?_
  · simp -dsimp [q_places]
    exact .mk ⟨rfl, rfl⟩
  · rintro ds S1 ⟨rfl, rfl⟩
    exact ⟨0, none, none, none, rfl, Nat.zero_le _, rfl, rfl⟩
  · rintro d ds sl S1 ⟨i, x3, x4, x5, e1, hi, rfl, rfl⟩
    obtain ⟨hlt, rfl, rfl⟩ := drop_cons' e1
    obtain ⟨x, ex⟩ : ∃ x, x = (places h)[i] := ⟨_, rfl⟩
    rw [← ex]
    have tk : (places h).take (i + 1) = (places h).take i ++ [x] := by rw [ex]; exact List.take_succ_eq_append_getElem hlt
    have il : i < sizeLine := by unfold places at hlt; rw [List.length_map] at hlt; omega
    simp -dsimp
    refine WE_comp_map natD (fun k => decide (r.getD k "" = x)) natD (List.range r.length) ?_ (fun k hk => ?_) ?_
    · simp -dsimp [len_rowD, rng1_nat r.length (by omega)]
      exact fun _ _ => rfl
    · have hk' := List.mem_range.mp hk
      have e := ix_rowD (S := S1) r k hk'
      have e' : ixS S1 (rowD r) (natD k) = some (.str r[k]) := e
      simp -dsimp [e', List.getElem?_eq_getElem hk']
    · show WS _ _ _ _ _ _
      obtain ⟨a, ea⟩ : ∃ a, a = ats r x := ⟨_, rfl⟩
      have ea' : (List.range r.length).filter (fun k => decide (r.getD k "" = x)) = a := by rw [ea]; rfl
      rw [ea']
      have al : a.length ≤ r.length := by
        rw [ea]
        have := List.length_filter_le (fun k => decide (r.getD k "" = x)) (List.range r.length)
        rw [List.length_range] at this
        exact this
      simp -dsimp
      refine WE_comp_all natD (fun k => .int (gapK a r.length k)) (List.range a.length) ?_ (fun k hk => ?_) ?_
      · simp -dsimp [rng1_nat a.length (by omega)]
        exact fun _ _ => rfl
      · have hk' := List.mem_range.mp hk
        have hne : a ≠ [] := fun z => by rw [z] at hk'; simp at hk'
        have i0 := ix_natL (S := S1) a 0 (by omega)
        have ik := ix_natL (S := S1) a k hk'
        have il := ix_last (S := S1) natD a 0 hne
        simp -dsimp [natD]
        refine WI.dec (fun h0 => ?_) fun h0 => ?_
        · obtain ⟨m, rfl⟩ : ∃ m, k = m + 1 := ⟨k - 1, by omega⟩
          have im := ix_natL (S := S1) a m (by omega)
          have e5 : ((m + 1 : Nat) : Int) - 1 = (m : Int) := by omega
          have ik' : ixS S1 (.lst (a.map natD)) (.int ((m : Int) + 1)) = some (.int (a.getD (m + 1) 0 : Nat)) := ik
          have e5 : (m : Int) + 1 - 1 = (m : Int) := by omega
          simp -dsimp [ik', im, e5, gapK]
        · have k0 : k = 0 := by omega
          subst k0
          have i0' : ixS S1 (.lst (a.map natD)) (.int 0) = _ := i0
          have il' : ixS S1 (.lst (a.map natD)) (.int (-1)) = _ := il
          simp -dsimp [i0', il', len_rowD, natD, gapK]
      · rw [show (List.range a.length).map (fun k => D.int (gapK a r.length k)) = (gapsL a r.length).map .int by unfold gapsL; rw [List.map_map]; rfl]
        have ne := neD_cod (cod_lst cod_int) (by decide) (gapsL a r.length) []
        have ne' : neD (.lst ((gapsL a r.length).map .int)) (.lst []) = _ := ne
        have g0 : gapsL a r.length = [] ↔ a = [] := by unfold gapsL; simp
        simp -dsimp [z0', ne']
        refine WI.of (fun hn => ?_) fun hn => ?_
        · have hne : a ≠ [] := fun z => by rw [g0.mpr z] at hn; simp at hn
          have hg : gap r x = some (maxL (gapsL a r.length)) := by unfold gap; rw [← ea, if_neg hne]
          have mx := maxD_ok (gapsL a r.length) fun z => hne (g0.mp z)
          simp -dsimp [mx]
          refine ⟨by omega, .mk ⟨i + 1, _, _, _, rfl, hlt, rfl, by rw [tk, List.map_append, List.map_singleton, hg, List.map_take]; rfl⟩⟩
        · have h0 : a = [] := by
            refine g0.mp ?_
            simpa using hn
          have hg : gap r x = none := by unfold gap; rw [← ea, if_pos h0]
          simp -dsimp
          refine ⟨by omega, .mk ⟨i + 1, _, _, _, rfl, hlt, rfl, by rw [tk, List.map_append, List.map_singleton, hg, List.map_take]; rfl⟩⟩
  · rintro sl S1 ⟨i, x3, x4, x5, e1, hi, rfl, rfl⟩
    have ei := drop_end' e1 hi
    subst ei
    simp -dsimp
end k76
set_option linter.all false
set_option autoImplicit false
set_option maxRecDepth 100000
namespace k76
open Lk PySem PySem.Spec PyProof.Rows L2 NdefX
variable {κs : List Lk.Sem} {S : Sto} {E : Exc → Sto → Prop}
/-! ### a ring row keeps a house -/
theorem cod_nat : Cod natD 0 := ⟨fun _ => rfl, fun _ => by simp [natD, D.P, PyData.depth], fun x y => by
  simp [natD, D.P, PyData.eqv]
  exact Bool.eq_iff_iff.mpr (by simp [Int.ofNat_inj])⟩
@[simp] theorem optI_none : optI none = .non := (rfl)
@[simp] theorem optI_some (i : Int) : optI (some i) = .int i := (rfl)
def okGap (r : List Str) (p : Str × Int) : Bool := match gap r p.1 with
  | none => false
  | some g => decide (g ≤ p.2)
def keepsRound (h : House) (r : List Str) : Bool := !decide (r = []) && h.all (okGap r)
theorem q_keeps_round (h : House) (r : List Str) (hl : h.length ≤ 100) (rl : r.length ≤ 100000) : sem__law_keeps_round [hD h, rowD r] κs S = some (.ok (.bl (keepsRound h r)) S) := by
  refine WE.eq ?_
  unfold sem__law_keeps_round m__law_keeps_round
  have e0 : eqD (rowD r) (.tup []) = some (decide (r = [])) := eqD_cod (cod_tup cod_str) (by decide) r []
  simp -dsimp [z0', e0]
  refine WI.dec (fun h0 => ?_) fun h0 => ?_
  · simp -dsimp [keepsRound, h0]
  · simp -dsimp [q_gaps h r hl rl]
    refine WE_comp_map natD (fun k => !okGap r (h.getD k ("", 0))) natD (List.range h.length) ?_ (fun k hk => ?_) ?_
    · simp -dsimp [rng1_nat h.length (by omega)]
      exact fun _ _ => rfl
    · have hk' := List.mem_range.mp hk
      have e1 : ixS S (.lst ((places h).map fun x => optI (gap r x))) (natD k) = some (optI (gap r (h.getD k ("", 0)).1)) := by
        unfold natD
        rw [ix_lstN _ _ (by unfold places; simpa using hk'), getD_lt _ _ _ hk']
        simp [places]
      have e2 : ixS S (hD h) (natD k) = some (prD (h.getD k ("", 0))) := by
        unfold natD
        rw [ix_hD h k hk', getD_lt _ _ _ hk']
      obtain ⟨p, ep⟩ : ∃ p, p = h.getD k ("", 0) := ⟨_, rfl⟩
      rw [← ep] at e1 e2 ⊢
      cases hg : gap r p.1 with
      | none =>
        rw [hg] at e1
        have ok : okGap r p = false := by unfold okGap; rw [hg]
        rw [ok]
        simp -dsimp [e1]
      | some g =>
        rw [hg] at e1
        have ok : okGap r p = decide (g ≤ p.2) := by unfold okGap; rw [hg]
        rw [ok]
        simp -dsimp [e1, e2, ix_pr1]
        by_cases q : g ≤ p.2
        · simp [q]
        · simp [q]; omega
    · obtain ⟨bad, eb⟩ : ∃ bad, bad = (List.range h.length).filter fun k => !okGap r (h.getD k ("", 0)) := ⟨_, rfl⟩
      rw [← eb]
      have ee : eqD (.lst (bad.map natD)) (.lst []) = some (decide (bad = [])) := eqD_cod (cod_lst cod_nat) (by decide) bad []
      simp -dsimp [z0', ee]
      unfold keepsRound
      rw [decide_eq_false h0, eb]
      refine Bool.eq_iff_iff.mpr ?_
      rw [decide_eq_true_iff, List.filter_eq_nil_iff, Bool.not_false, Bool.true_and, List.all_eq_true]
      constructor
      · intro q p hp
        obtain ⟨k, hk, rfl⟩ := List.getElem_of_mem hp
        have := q k (List.mem_range.mpr hk)
        rw [getD_lt _ _ _ hk] at this
        simpa using this
      · intro q k hk
        have hk' := List.mem_range.mp hk
        have := q h[k] (List.getElem_mem hk')
        rw [getD_lt _ _ _ hk']
        simpa using this
/-! ### the look of a rule -/
theorem pick_le (us : List (Int × Int)) : ∀ i, pick us i ≤ i
  | 0 => Nat.le_refl _
  | i + 1 => by
    have := pick_le us i
    unfold pick
    split <;> omega
def worthD (h : House) (a : Ages) (w : Way) (i : Nat) : D := .tup [.str (h.getD (pick (urges h a w) i) ("", 0)).1, urD ((urges h a w).getD (pick (urges h a w) i) (0, 1))]
def bestD (h : House) (a : Ages) (w : Way) (i : Nat) : D := if i = 0 then .non else worthD h a w i
theorem urges_at {h : House} {a : Ages} (w : Way) (la : a.length = h.length) (i : Nat) (hi : i < h.length) : (urges h a w).getD i (0, 1) = urge w a[i] h[i].2 := by
  have l : i < (urges h a w).length := by unfold urges; rw [List.length_map, List.length_zip]; omega
  rw [getD_lt _ _ _ l]
  simp [urges]
def Way.sh : Way → Bool
  | .share => true
  | _ => false
def Way.ol : Way → Bool
  | .oldest => true
  | _ => false
theorem q_rule_look {h : House} {a : Ages} (ok : HouseOk h) (oka : AgesOk h a) (w : Way) : sem__law_rule_look [hD h, agD a, .str w.s] κs S = some (.ok (.str (lookBy h a w)) S) := by
  refine WE.eq ?_
  unfold sem__law_rule_look m__law_rule_look
  have la := oka.len
  have hl := ok.le
  have hn := ok.ne
  have e1 : eqD (.str w.s) (.str "share") = some w.sh := by
    rw [way_eq w _ (by decide +kernel)]
    clear oka
    cases w <;> decide +kernel
  have e2 : eqD (.str w.s) (.str "oldest") = some w.ol := by
    rw [way_eq w _ (by decide +kernel)]
    clear oka e1
    cases w <;> decide +kernel
  simp -dsimp
  refine WS_for (fun ds S' => ds = ((List.range h.length).map fun (i : Nat) => D.int (i : Int)) ∧ S' = S) (fun ds sl S' => ∃ (i : Nat) (x4 x5 x6 x7 : Option Sl), ds = ((List.range h.length).map fun (i : Nat) => D.int (i : Int)).drop i ∧ i ≤ h.length ∧ S' = S ∧
    sl = [some (.val (hD h)), some (.val (agD a)), some (.val (.str w.s)), some (.val (bestD h a w i)), x4, x5, x6, x7]) ?_ ?_ ?_ ?_
  · simp -dsimp [rng1_nat h.length (by omega)]
    exact .mk ⟨rfl, rfl⟩
  · rintro ds S1 ⟨rfl, rfl⟩
    exact ⟨0, none, none, none, none, rfl, Nat.zero_le _, rfl, rfl⟩
  · rintro d ds sl S1 ⟨i, x4, x5, x6, x7, e3, hi, rfl, rfl⟩
    obtain ⟨hlt, rfl, rfl⟩ := rng1_drop e3
    have hp := ix_hD (S := S1) h i hlt
    have ha := ix_agD (S := S1) a i (by omega)
    have ui := urges_at w la i hlt
    obtain ⟨u, eu⟩ : ∃ u, u = urge w a[i] h[i].2 := ⟨_, rfl⟩
    have a0 : 0 ≤ a[i] := oka.lo _ (List.getElem_mem _)
    have a1 : a[i] < h[i].2 := oka.hi (a[i], h[i]) (by
      have : (a.zip h)[i]'(by rw [List.length_zip]; omega) = (a[i], h[i]) := List.getElem_zip
      rw [← this]; exact List.getElem_mem _)
    have hh := ok.hi _ (List.getElem_mem hlt)
    have us : small u.1 = true ∧ small u.2 = true := by
      rw [eu]
      cases w <;> exact ⟨small_of (by simp only [urge]; omega) (by simp only [urge]; omega), small_of (by simp only [urge]; omega) (by simp only [urge]; omega)⟩
    have fin : WE ((mIf (mCmpT eqD (mBor 2) (mRet (.str "share"))) (mTup (mCons (mOp2 addD (mIxS (mBor 1) (mVar 4)) (mRet (.int 1))) (mCons (mVar 6) (mNil)))) (mIf (mCmpT eqD (mBor 2) (mRet (.str "oldest"))) (mTup (mCons (mIxS (mBor 1) (mVar 4)) (mCons (mRet (.int 1)) (mNil)))) (mTup (mCons (mOp2 subD (mIxS (mBor 1) (mVar 4)) (mVar 6)) (mCons (mRet (.int 1)) (mNil)))))) ⟨[some (.val (hD h)), some (.val (agD a)), some (.val (.str w.s)), some (.val (bestD h a w i)), some (.val (.int i)), some (.val (.str h[i].1)), some (.val (.int h[i].2)), x7], κs⟩ S1) (fun d S' => d = urD u ∧ S' = S1) (fun _ _ => False) := by
      rw [eu]
      simp -dsimp only [WE_if, WE_cmpT, WE_bor, WE_ret, WE_tup, WE_cons, WE_nil, WE_op2, WE_ixS, WE_var, Lk.valAt, Lk.borAt, WO_some, e1, e2]
      cases w <;> simp -dsimp [-eqD_str', e2, Way.sh, Way.ol, ha, z2', urD, urge]
    have fe := WE.eq fin
    have bt : bindT (.tup (.cons (.nm 5) (.cons (.nm 6) .nil))) (prD h[i]) [some (.val (hD h)), some (.val (agD a)), some (.val (.str w.s)), some (.val (bestD h a w i)), some (.val (.int i)), x5, x6, x7] = some [some (.val (hD h)), some (.val (agD a)), some (.val (.str w.s)), some (.val (bestD h a w i)), some (.val (.int i)), some (.val (.str h[i].1)), some (.val (.int h[i].2)), x7] := rfl
    refine WO.use (bindT_nm _ _ _) ?_
    refine WS.cut (fun sl S' => sl = [some (.val (hD h)), some (.val (agD a)), some (.val (.str w.s)), some (.val (bestD h a w i)), some (.val (.int i)), some (.val (.str h[i].1)), some (.val (.int h[i].2)), x7] ∧ S1 = S') (by simp -dsimp [hp, bt]; exact .mk ⟨rfl, rfl⟩) ?_
    rintro _ S2 ⟨rfl, e9⟩
    rw [← e9]
    refine WS_seq.mpr (WS_set.mpr (WE.of fe ?_))
    have u0 : ixS S1 (urD u) (.int 0) = some (.int u.1) := ix_tup0 _ _
    have u1 : ixS S1 (urD u) (.int 1) = some (.int u.2) := ix_tup1 _ _ _
    have hb : (h.getD i ("", 0)) = h[i] := getD_lt _ _ _ hlt
    cases i with
    | zero =>
      have b0 : bestD h a w 0 = .non := rfl
      have b1 : bestD h a w 1 = .tup [.str h[0].1, urD u] := by
        show worthD h a w 1 = _
        have p1 : pick (urges h a w) 1 = 0 := by
          show (if lessB ((urges h a w).getD (pick (urges h a w) 0) (0, 1)) ((urges h a w).getD 0 (0, 1)) then 0 else pick (urges h a w) 0) = 0
          split <;> rfl
        unfold worthD
        rw [p1, ui, hb, ← eu]
      simp -dsimp [b0, z2']
      exact .mk ⟨1, _, _, _, _, rfl, hlt, rfl, by rw [b1]; rfl⟩
    | succ i =>
      obtain ⟨j, ej⟩ : ∃ j, j = pick (urges h a w) (i + 1) := ⟨_, rfl⟩
      have jl : j < h.length := by
        have := pick_le (urges h a w) (i + 1)
        omega
      obtain ⟨b, eb⟩ : ∃ b, b = (urges h a w).getD j (0, 1) := ⟨_, rfl⟩
      have bw : bestD h a w (i + 1) = .tup [.str (h.getD j ("", 0)).1, urD b] := by
        show worthD h a w (i + 1) = _
        unfold worthD
        rw [← ej, ← eb]
      have bn : (bestD h a w (i + 1)).isNon = false := by rw [bw]; rfl
      have x1 : ixS S1 (bestD h a w (i + 1)) (.int 1) = some (urD b) := by rw [bw]; exact ix_tup1 _ _ _
      have y0 : ixS S1 (urD b) (.int 0) = some (.int b.1) := ix_tup0 _ _
      have y1 : ixS S1 (urD b) (.int 1) = some (.int b.2) := ix_tup1 _ _ _
      have bs : small b.1 = true := by
        rw [eb, urges_at w la j jl]
        have c0 : 0 ≤ a[j] := oka.lo _ (List.getElem_mem _)
        have c1 : a[j] < h[j].2 := oka.hi (a[j], h[j]) (by
          have : (a.zip h)[j]'(by rw [List.length_zip]; omega) = (a[j], h[j]) := List.getElem_zip
          rw [← this]; exact List.getElem_mem _)
        have c2 := ok.hi _ (List.getElem_mem jl)
        cases w <;> exact small_of (by simp only [urge]; omega) (by simp only [urge]; omega)
      have mu1 := mulD_l (i := u.1) (j := b.2) us.1
      have mu2 := mulD_l (i := b.1) (j := u.2) bs
      have pk : pick (urges h a w) (i + 1 + 1) = if lessB b u then i + 1 else j := by
        show (if lessB ((urges h a w).getD (pick (urges h a w) (i + 1)) (0, 1)) ((urges h a w).getD (i + 1) (0, 1)) then i + 1 else pick (urges h a w) (i + 1)) = _
        rw [← ej, ← eb, ui, ← eu]
      have nxt : bestD h a w (i + 1 + 1) = .tup [.str (h.getD (if lessB b u then i + 1 else j) ("", 0)).1, urD ((urges h a w).getD (if lessB b u then i + 1 else j) (0, 1))] := by
        show worthD h a w (i + 1 + 1) = _
        unfold worthD
        rw [pk]
      simp -dsimp [bn, u0, u1, x1, y0, y1, mu1, mu2]
      refine WI.dec (fun hlt' => ?_) fun hlt' => ?_
      · have lb : lessB b u = true := decide_eq_true hlt'
        simp -dsimp [z2']
        rw [lb] at nxt
        simp only [if_true] at nxt
        rw [hb, ui, ← eu] at nxt
        exact .mk ⟨i + 1 + 1, _, _, _, _, rfl, hlt, rfl, by rw [nxt]; rfl⟩
      · have lb : lessB b u = false := decide_eq_false hlt'
        simp -dsimp
        rw [lb] at nxt
        simp only [Bool.false_eq_true, if_false] at nxt
        rw [← eb] at nxt
        exact .mk ⟨i + 1 + 1, _, _, _, _, rfl, hlt, rfl, by rw [nxt, bw]; rfl⟩
  · rintro sl S1 ⟨i, x4, x5, x6, x7, e3, hi, rfl, rfl⟩
    have ei := rng1_end e3 hi
    subst ei
    have b : bestD h a w h.length = worthD h a w h.length := if_neg (by omega)
    have x0 : ixS S1 (bestD h a w h.length) (.int 0) = some (.str (lookBy h a w)) := by
      rw [b]
      exact ix_tup0 _ _
    simp -dsimp [x0]
end k76
set_option linter.all false
set_option autoImplicit false
set_option maxRecDepth 100000
namespace k76
open Lk PySem PySem.Spec PyProof.Rows L2 NdefX
variable {κs : List Lk.Sem} {S : Sto} {E : Exc → Sto → Prop}
/-! ### a rule led by the law -/
theorem mem_dOf' (t : Nat → Ages) (n : Nat) (b : Ages) : memD false (agD b) (.dct (dOf t n)) = some ((List.range n).any fun i => decide (t i = b)) := by
  have q := mem_dOf t n b
  unfold memD at q ⊢
  cases e : inD (agD b) (.dct (dOf t n)) with
  | none => rw [e] at q; cases q
  | some k =>
    rw [e] at q
    simp at q ⊢
    exact q
theorem isK_opt (o : Option Ages) : (optD o).isK = false := by cases o <;> rfl
theorem tr_eq {h : House} {w : Way} {a : Ages} {n : Nat} (l : Led h w a n) {i : Nat} (hi : i + 1 < n) : nextA h (tr h w a i) (lookBy h (tr h w a i) w) = some (tr h w a (i + 1)) := l.go i hi
theorem looksD_snoc (h : House) (w : Way) (a : Ages) (n : Nat) : looksD h w a n ++ [.str (lookBy h (tr h w a n) w)] = looksD h w a (n + 1) := by
  unfold looksD
  rw [List.range_succ, List.map_append]; rfl
theorem q_led {h : House} {a : Ages} (ok : HouseOk h) (oka : AgesOk h a) (w : Way) {n : Nat} (l : Led h w a n) (h1 : 1 ≤ n) (r : D)
    (hr : (hereOf h w a n = none ∧ r = .tup [.int (n : Int), .non]) ∨ ∃ k, k < n ∧ hereOf h w a n = some (tr h w a k) ∧ r = .tup [.non, .tup (cutL (looksD h w a n) (some (k : Int)) none)]) :
    sem__law_led [hD h, agD a, .str w.s] κs S = some (.ok r S) := by
  refine WE.eq ?_
  have hn := l.bound ok oka
  unfold sem__law_led m__law_led
  have sz := sz1000
  simp -dsimp [z0', D.isK]
  have here : ∀ i, i < n → hereOf h w a i = some (tr h w a i) := fun i hi => by
    cases i with
    | zero => rfl
    | succ i => exact l.go i hi
  refine WS_for (fun ds S' => ds = ((List.range 700).map fun (i : Nat) => D.int (i : Int)) ∧ S' = S) (fun ds sl S' => ∃ (i : Nat) (b : Ages) (x5 x6 : Option Sl), ds = ((List.range 700).map fun (i : Nat) => D.int (i : Int)).drop i ∧ i ≤ n ∧ hereOf h w a i = some b ∧ S' = S ∧
    sl = [some (.val (hD h)), some (.val (agD b)), some (.val (.str w.s)), some (.own (.dct (dOf (tr h w a) i))), some (.val (.tup (looksD h w a i))), x5, x6]) ?_ ?_ ?_ ?_
  · have e := rng1_nat 700 (by omega)
    have e' : rng1D (.int 700) = _ := e
    generalize ((List.range 700).map fun (i : Nat) => D.int (i : Int)) = rr at e' ⊢
    simp -dsimp [e']
    exact .mk ⟨rfl, rfl⟩
  · rintro ds S1 ⟨rfl, rfl⟩
    exact ⟨0, a, none, none, rfl, Nat.zero_le _, rfl, rfl, rfl⟩
  · rintro d ds sl S1 ⟨i, b, x5, x6, e1, hi, hb, rfl, rfl⟩
    obtain ⟨hlt, rfl, rfl⟩ := rng1_drop e1
    have ll : (looksD h w a i).length = i := looksD_len h w a i
    rcases Nat.lt_or_ge i n with hin | hin
    · have eb : b = tr h w a i := by
        have := here i hin
        rw [hb] at this
        exact Option.some.inj this
      subst eb
      have oki := l.ages oka i hin
      have nm : memD false (agD (tr h w a i)) (.dct (dOf (tr h w a) i)) = some false := by
        rw [mem_dOf']
        congr 1
        rw [List.any_eq_false]
        intro j hj
        have hj' := List.mem_range.mp hj
        rw [decide_eq_true_iff]
        intro z
        have := l.ne j i (by omega) hin z
        omega
      have st := setOb_dOf (tr h w a) i (by omega) fun j hj z => by
        have := l.ne j i (by omega) hin z
        omega
      have qb := q_behind (κs := κs) (S := S1) (h := h) (a := tr h w a i) (lookBy h (tr h w a i) w) oki.len (by have := ok.le; omega)
      have ap : addD (.tup (looksD h w a i)) (.tup [.str (lookBy h (tr h w a i) w)]) = some (.tup (looksD h w a (i + 1))) := by
        rw [addD_tup _ _ (by rw [ll]; simp; omega), looksD_snoc]
      simp -dsimp [nm, ll, putW, putR]
      refine WO.use st ?_
      simp -dsimp [q_rule_look ok oki, qb, isK_opt, z1', ap, D.isK, isNon_opt]
      cases hnx : nextA h (tr h w a i) (lookBy h (tr h w a i) w) with
      | none =>
        have en : i + 1 = n := by
          rcases Nat.lt_or_ge (i + 1) n with q | q
          · have := tr_eq l q
            rw [hnx] at this
            cases this
          · omega
        have hN : hereOf h w a n = none := by rw [← en]; exact hnx
        have er : r = .tup [.int (n : Int), .non] := by
          rcases hr with ⟨_, e⟩ | ⟨k, _, e, _⟩
          · exact e
          · rw [hN] at e; cases e
        simp -dsimp [looksD_len, z2', er]
        omega
      | some b =>
        simp -dsimp
        exact ⟨rfl, .mk ⟨i + 1, b, _, _, rfl, by omega, hnx, rfl, rfl⟩⟩
    · have en : i = n := by omega
      subst en
      rcases hr with ⟨e, _⟩ | ⟨k, hk, e, er⟩
      · rw [hb] at e; cases e
      · have eb : b = tr h w a k := by
          rw [hb] at e
          exact Option.some.inj e
        subst eb
        have hf : (List.range i).find? (fun j => decide (tr h w a j = tr h w a k)) = some k := by
          cases hf : (List.range i).find? (fun j => decide (tr h w a j = tr h w a k)) with
          | none =>
            have := List.find?_eq_none.mp hf k (List.mem_range.mpr hk)
            simp at this
          | some j =>
            have h2 := List.find?_some hf
            have h3 := List.mem_range.mp (List.mem_of_find?_eq_some hf)
            rw [l.ne j k h3 hk (of_decide_eq_true h2)]
        have nm : memD false (agD (tr h w a k)) (.dct (dOf (tr h w a) i)) = some true := by
          rw [mem_dOf']
          congr 1
          rw [List.any_eq_true]
          exact ⟨k, List.mem_range.mpr hk, by simp⟩
        have ix : ixS S1 (.dct (dOf (tr h w a) i)) (agD (tr h w a k)) = some (.int (k : Int)) := by
          simp [ixS, ixD, look_dOf, hf]
        simp -dsimp [nm, ix, Lk.cutD, z2', er]
  · rintro sl S1 ⟨i, b, x5, x6, e1, hi, hb, rfl, rfl⟩
    have ei := rng1_end e1 (by omega)
    omega
/-! ### the same -/
theorem cod_bl : Cod D.bl 0 := ⟨fun _ => rfl, fun _ => by simp [D.P, PyData.depth], fun x y => by
  simp [D.P, PyData.eqv]
  cases x <;> cases y <;> rfl⟩
@[simp] theorem eqD_bl (i j : Bool) : eqD (.bl i) (.bl j) = some (decide (i = j)) := eqD_cod cod_bl (by decide) i j
@[simp] theorem neD_bl (i j : Bool) : neD (.bl i) (.bl j) = some (!decide (i = j)) := neD_cod cod_bl (by decide) i j
inductive Sm : Nat → D → Prop
  | non {n : Nat} : Sm n .non
  | int {n : Nat} (i : Int) : Sm n (.int i)
  | str {n : Nat} (x : Str) : Sm n (.str x)
  | bl {n : Nat} (x : Bool) : Sm n (.bl x)
  | tup {n : Nat} {ds : List D} : (∀ d ∈ ds, Sm n d) → ds.length ≤ 10000 → Sm (n + 1) (.tup ds)
theorem same_flat {n : Nat} {d : D} (h1 : isiD .tuple d = some false) {b c : Bool} (h2 : isiD .bool d = some b) (h3 : isiD .int d = some c) (h4 : eqD d d = some true) (s1 : sl1 d = .val d) : semN__law_same (n + 1) [d, d] κs S = some (.ok (.bl true) S) := by
  refine WE.eq ?_
  unfold semN__law_same m__law_same
  simp -dsimp [s1, h1, h2, h3, h4]
theorem q_same : ∀ {n : Nat} {d : D}, Sm n d → ∀ κs S, semN__law_same (n + 1) [d, d] κs S = some (.ok (.bl true) S)
  | _, _, .non => fun κs S => same_flat rfl rfl rfl (by decide +kernel) rfl
  | _, _, .int i => fun κs S => same_flat rfl rfl rfl (by simp) rfl
  | _, _, .str i => fun κs S => same_flat rfl rfl rfl (by simp) rfl
  | _, _, .bl i => fun κs S => same_flat rfl rfl rfl (by simp) rfl
  | _, _, .tup (n := n) (ds := ds) h hl => fun κs S => by
    refine WE.eq ?_
    unfold semN__law_same m__law_same
    have t : isiD .tuple (.tup ds) = some true := rfl
    simp -dsimp [t]
    refine WE_comp_all natD (fun _ => .bl true) (List.range ds.length) ?_ (fun k hk => ?_) ?_
    · simp -dsimp [rng1_nat ds.length (by omega)]
      exact fun _ _ => rfl
    · have hk' := List.mem_range.mp hk
      have ix : ixS S (.tup ds) (natD k) = some ds[k] := ix_tupN _ _ hk'
      have q := q_same (h ds[k] (List.getElem_mem _)) κs S
      simp -dsimp [ix, q]
    · have := allD_map (fun _ : Nat => true) (List.range ds.length)
      simp -dsimp [this]
theorem q_law_same {d : D} (h : Sm 5 d) : sem__law_same [d, d] κs S = some (.ok (.bl true) S) := q_same h κs S
end k76
set_option linter.all false
set_option autoImplicit false
set_option maxRecDepth 100000
namespace k76
open Lk PySem PySem.Spec PyProof.Rows L2 NdefX
variable {κs : List Lk.Sem} {S : Sto} {E : Exc → Sto → Prop}
/-! ### rounds that come again keep the house -/
theorem foldl_max_le {b : Int} : ∀ (xs : List Int) (x : Int), x ≤ b → (∀ y ∈ xs, y ≤ b) → xs.foldl max x ≤ b
  | [], x, h, _ => h
  | y :: ys, x, h, hy => foldl_max_le ys (max x y) (Int.max_le.mpr ⟨h, hy y List.mem_cons_self⟩) fun z hz => hy z (List.mem_cons_of_mem _ hz)
theorem maxL_le {b : Int} : ∀ {xs : List Int}, xs ≠ [] → (∀ y ∈ xs, y ≤ b) → maxL xs ≤ b
  | [], h, _ => absurd rfl h
  | x :: xs, _, hy => foldl_max_le xs x (hy x List.mem_cons_self) fun z hz => hy z (List.mem_cons_of_mem _ hz)
section
variable {m : Nat} {p : Nat → Bool}
theorem filt_mono (i j : Nat) (hij : i < j) (hj : j < ((List.range m).filter p).length) : ((List.range m).filter p).getD i 0 < ((List.range m).filter p).getD j 0 := by
  have pw : ((List.range m).filter p).Pairwise (· < ·) := List.pairwise_lt_range.filter p
  rw [getD_lt _ _ _ (by omega), getD_lt _ _ _ hj]
  exact List.pairwise_iff_getElem.mp pw i j (by omega) hj hij
theorem filt_mem (i : Nat) (hi : i < ((List.range m).filter p).length) : ((List.range m).filter p).getD i 0 < m ∧ p (((List.range m).filter p).getD i 0) = true := by
  rw [getD_lt _ _ _ hi]
  obtain ⟨h1, h2⟩ := List.mem_filter.mp (List.getElem_mem hi)
  exact ⟨List.mem_range.mp h1, h2⟩
theorem filt_find {j : Nat} (hj : j < m) (hp : p j = true) : ∃ i, i < ((List.range m).filter p).length ∧ ((List.range m).filter p).getD i 0 = j := by
  obtain ⟨i, hi, e⟩ := List.getElem_of_mem (List.mem_filter.mpr ⟨List.mem_range.mpr hj, hp⟩)
  exact ⟨i, hi, by rw [getD_lt _ _ _ hi]; exact e⟩
theorem filt_le (i j : Nat) (hij : i ≤ j) (hj : j < ((List.range m).filter p).length) : ((List.range m).filter p).getD i 0 ≤ ((List.range m).filter p).getD j 0 := by
  rcases Nat.eq_or_lt_of_le hij with e | e
  · rw [e]; exact Nat.le_refl _
  · exact Nat.le_of_lt (filt_mono i j e hj)
theorem filt_between {k j : Nat} (hk : k + 1 < ((List.range m).filter p).length) (h1 : ((List.range m).filter p).getD k 0 < j) (h2 : j < ((List.range m).filter p).getD (k + 1) 0) : p j = false := by
  cases hp : p j with
  | false => rfl
  | true =>
    have hm := (filt_mem (p := p) (m := m) (k + 1) hk).1
    obtain ⟨i, hi, e⟩ := filt_find (m := m) (by omega) hp
    rcases Nat.lt_or_ge k i with q | q
    · have := filt_le (p := p) (m := m) (k + 1) i q hi
      omega
    · have := filt_le (p := p) (m := m) i k q (by omega)
      omega
theorem filt_first {j : Nat} (h0 : 0 < ((List.range m).filter p).length) (h2 : j < ((List.range m).filter p).getD 0 0) : p j = false := by
  cases hp : p j with
  | false => rfl
  | true =>
    have hm := (filt_mem (p := p) (m := m) 0 h0).1
    obtain ⟨i, hi, e⟩ := filt_find (m := m) (by omega) hp
    have := filt_le (p := p) (m := m) 0 i (Nat.zero_le _) hi
    omega
theorem filt_last {j : Nat} (hj : j < m) (h2 : ((List.range m).filter p).getD (((List.range m).filter p).length - 1) 0 < j) : p j = false := by
  cases hp : p j with
  | false => rfl
  | true =>
    obtain ⟨i, hi, e⟩ := filt_find (m := m) hj hp
    have := filt_le (p := p) (m := m) i (((List.range m).filter p).length - 1) (by omega) (by omega)
    omega
end
theorem gap_le {m : Nat} (hm : 1 ≤ m) {L : Nat → Str} {x : Str} {l : Int} {v : Nat → Int} (hv : ∀ j, j < m → v (j + 1) = (if x = L j then 0 else v j + 1) ∧ v (j + 1) < l) (he : v m = v 0) :
    okGap ((List.range m).map L) (x, l) = true := by
  have run : ∀ (s d : Nat), s + d ≤ m → (∀ j, s ≤ j → j < s + d → x ≠ L j) → v (s + d) = v s + (d : Int) := by
    intro s d
    induction d with
    | zero => intro _ _; simp
    | succ d ih =>
      intro h1 h2
      have e := ih (by omega) fun j a b => h2 j a (by omega)
      have := (hv (s + d) (by omega)).1
      rw [if_neg (h2 (s + d) (by omega) (by omega))] at this
      show v (s + d + 1) = _
      rw [this, e]
      omega
  have ea : ats ((List.range m).map L) x = (List.range m).filter fun j => decide (x = L j) := by
    unfold ats
    rw [List.length_map, List.length_range]
    refine List.filter_congr fun j hj => ?_
    have hj' := List.mem_range.mp hj
    rw [getD_lt _ _ _ (by simpa using hj')]
    simp only [List.getElem_map, List.getElem_range]
    refine decide_eq_decide.mpr ⟨fun h => h.symm, fun h => h.symm⟩
  obtain ⟨A, eA⟩ : ∃ A, A = (List.range m).filter fun j => decide (x = L j) := ⟨_, rfl⟩
  have hne : 0 < A.length := by
    rcases Nat.lt_or_ge 0 A.length with q | q
    · exact q
    · have z : A = [] := List.length_eq_zero_iff.mp (by omega)
      have no : ∀ j, j < m → x ≠ L j := fun j hj e => by
        have : j ∈ A := by rw [eA]; exact List.mem_filter.mpr ⟨List.mem_range.mpr hj, decide_eq_true e⟩
        rw [z] at this
        cases this
      have := run 0 m (by omega) fun j _ hj => no j (by omega)
      rw [Nat.zero_add, he] at this
      omega
  have hit : ∀ k, k < A.length → A.getD k 0 < m ∧ x = L (A.getD k 0) ∧ v (A.getD k 0 + 1) = 0 := fun k hk => by
    subst eA
    obtain ⟨h1, h2⟩ := filt_mem k hk
    have h3 := of_decide_eq_true h2
    have := (hv _ h1).1
    rw [if_pos h3] at this
    exact ⟨h1, h3, this⟩
  unfold okGap gap
  rw [ea, ← eA]
  have neA : A ≠ [] := fun z => by rw [z] at hne; simp at hne
  rw [if_neg neA]
  simp only [List.length_map, List.length_range]
  refine decide_eq_true (maxL_le ?_ ?_)
  · unfold gapsL
    intro z
    rw [List.map_eq_nil_iff, List.range_eq_nil] at z
    omega
  · intro g hg
    obtain ⟨k, hk, rfl⟩ := List.mem_map.mp hg
    have hk' := List.mem_range.mp hk
    unfold gapK
    split
    · obtain ⟨i, rfl⟩ : ∃ i, k = i + 1 := ⟨k - 1, by omega⟩
      have h1 := hit i (by omega)
      have h2 := hit (i + 1) hk'
      have mo : A.getD i 0 < A.getD (i + 1) 0 := by subst eA; exact filt_mono i (i + 1) (by omega) hk'
      have bt : ∀ j, A.getD i 0 < j → j < A.getD (i + 1) 0 → x ≠ L j := fun j a b e => by
        subst eA
        have := filt_between hk' a b
        rw [decide_eq_true e] at this
        cases this
      obtain ⟨s, es⟩ : ∃ s, s = A.getD i 0 := ⟨_, rfl⟩
      obtain ⟨t, et⟩ : ∃ t, t = A.getD (i + 1) 0 := ⟨_, rfl⟩
      simp only [Nat.add_sub_cancel]
      rw [← es] at h1 mo bt ⊢
      rw [← et] at h2 mo bt ⊢
      have r := run (s + 1) (t - (s + 1)) (by omega) fun j a b => bt j (by omega) (by omega)
      rw [h1.2.2, show s + 1 + (t - (s + 1)) = t by omega] at r
      have : v t < l := by
        have q := (hv (t - 1) (by omega)).2
        rwa [show t - 1 + 1 = t by omega] at q
      omega
    · have h1 := hit 0 hne
      have h2 := hit (A.length - 1) (by omega)
      have b1 : ∀ j, j < A.getD 0 0 → x ≠ L j := fun j a e => by
        subst eA
        have := filt_first hne a
        rw [decide_eq_true e] at this
        cases this
      have b2 : ∀ j, A.getD (A.length - 1) 0 < j → j < m → x ≠ L j := fun j a b e => by
        subst eA
        have := filt_last b a
        rw [decide_eq_true e] at this
        cases this
      obtain ⟨s, es⟩ : ∃ s, s = A.getD (A.length - 1) 0 := ⟨_, rfl⟩
      obtain ⟨t, et⟩ : ∃ t, t = A.getD 0 0 := ⟨_, rfl⟩
      rw [← es] at h2 b2 ⊢
      rw [← et] at h1 b1 ⊢
      have r1 := run (s + 1) (m - (s + 1)) (by omega) fun j a b => b2 j (by omega) (by omega)
      rw [h2.2.2, show s + 1 + (m - (s + 1)) = m by omega] at r1
      have r2 := run 0 t (by omega) fun j _ b => b1 j (by omega)
      rw [Nat.zero_add] at r2
      have : v t < l := by
        rcases Nat.eq_zero_or_pos t with z | z
        · have q := (hv (m - 1) (by omega)).2
          rw [show m - 1 + 1 = m by omega, he] at q
          rw [z]; exact q
        · have q := (hv (t - 1) (by omega)).2
          rwa [show t - 1 + 1 = t by omega] at q
      omega
theorem nextA_at {h : House} {a b : Ages} {look : Str} (la : a.length = h.length) (e : nextA h a look = some b) : b.length = h.length ∧ ∀ (i : Nat) (hi : i < h.length), b.getD i 0 = (if h[i].1 = look then 0 else a.getD i 0 + 1) ∧ b.getD i 0 < h[i].2 := by
  unfold nextA at e
  split at e
  · rename_i hk
    cases e
    have lb := stepA_len look la
    refine ⟨lb, fun i hi => ?_⟩
    have e1 := stepA_at look la i hi (by omega)
    have e2 := (keeps_iff lb).mp hk i hi
    rw [getD_lt _ _ _ (by omega), getD_lt _ _ _ (by omega)]
    exact ⟨e1, e2⟩
  · cases e
theorem ring_keeps {h : House} {m : Nat} (hm : 1 ≤ m) {U : Nat → Ages} {L : Nat → Str} (hU : ∀ j, j < m → nextA h (U j) (L j) = some (U (j + 1))) (he : U m = U 0) (hl : (U 0).length = h.length) : keepsRound h ((List.range m).map L) = true := by
  have len : ∀ j, j ≤ m → (U j).length = h.length := by
    intro j
    induction j with
    | zero => exact fun _ => hl
    | succ j ih => exact fun hj => (nextA_at (ih (by omega)) (hU j (by omega))).1
  unfold keepsRound
  rw [Bool.and_eq_true]
  refine ⟨?_, List.all_eq_true.mpr fun p hp => ?_⟩
  · have : (List.range m).map L ≠ [] := fun z => by
      have := congrArg List.length z
      simp at this
      omega
    simpa using this
  · obtain ⟨i, hi, rfl⟩ := List.getElem_of_mem hp
    refine gap_le hm (v := fun j => (U j).getD i 0) (fun j hj => ?_) (by rw [he])
    exact (nextA_at (len j (by omega)) (hU j hj)).2 i hi
end k76
set_option linter.all false
set_option autoImplicit false
set_option maxRecDepth 100000
namespace k76
open Lk PySem PySem.Spec PyProof.Rows L2 NdefX
variable {κs : List Lk.Sem} {S : Sto} {E : Exc → Sto → Prop}
/-! ### the law's part -/
def lookAt (h : House) (w : Way) (a : Ages) (j : Nat) : Str := lookBy h (tr h w a j) w
theorem cut_looks (h : House) (w : Way) (a : Ages) {n k : Nat} (hk : k ≤ n) : cutL (looksD h w a n) (some (k : Int)) none = ((List.range (n - k)).map fun j => lookAt h w a (k + j)).map .str := by
  rw [cutL_drop]
  unfold looksD
  rw [List.map_map]
  refine List.ext_getElem (by simp) fun i h1 h2 => ?_
  simp [lookAt]
theorem lookBy_mem {h : House} {a : Ages} (ok : HouseOk h) (oka : AgesOk h a) (w : Way) : lookBy h a w ∈ places h := by
  unfold lookBy places
  have l : (urges h a w).length = h.length := by unfold urges; rw [List.length_map, List.length_zip, oka.len, Nat.min_self]
  have hn := ok.ne
  have := pick_lt (urges h a w) (fun z => by rw [z] at l; simp at l; omega) h.length (by omega)
  rw [getD_lt _ _ _ (by omega)]
  exact List.mem_map.mpr ⟨_, List.getElem_mem _, rfl⟩
theorem led_closed {h : House} {w : Way} {a : Ages} (ok : HouseOk h) (oka : AgesOk h a) {n k : Nat} (l : Led h w a n) (h1 : 1 ≤ n) (hk : k < n) (e : hereOf h w a n = some (tr h w a k)) : Closed h fun b => ∃ i, i < n ∧ b = tr h w a i := by
  rintro b ⟨i, hi, rfl⟩
  have oi := l.ages oka i hi
  refine ⟨oi.mem, lookBy h (tr h w a i) w, List.mem_cons_of_mem _ (lookBy_mem ok oi w), ?_⟩
  rcases Nat.lt_or_ge (i + 1) n with q | q
  · exact ⟨_, tr_eq l q, i + 1, q, rfl⟩
  · obtain ⟨m, rfl⟩ : ∃ m, n = m + 1 := ⟨n - 1, by omega⟩
    have : i = m := by omega
    subst this
    exact ⟨_, e, k, hk, rfl⟩
theorem led_ring {h : House} {w : Way} {a : Ages} (oka : AgesOk h a) {n k : Nat} (l : Led h w a n) (hk : k < n) (e : hereOf h w a n = some (tr h w a k)) : keepsRound h ((List.range (n - k)).map fun j => lookAt h w a (k + j)) = true := by
  refine ring_keeps (by omega) (U := fun j => if j = n - k then tr h w a k else tr h w a (k + j)) (fun j hj => ?_) ?_ ?_
  · have e1 : ¬ (j = n - k) := by omega
    simp only [e1, if_false]
    split
    · rename_i e2
      obtain ⟨m, rfl⟩ : ∃ m, n = m + 1 := ⟨n - 1, by omega⟩
      have : k + j = m := by omega
      unfold lookAt
      rw [this]
      exact e
    · exact tr_eq l (by omega)
  · have : ¬ (0 = n - k) := by omega
    simp [this]
  · have : ¬ (0 = n - k) := by omega
    simp only [this, if_false]
    exact (l.ages oka _ (by omega)).len
theorem nothing_ok {h : House} (ok : HouseOk h) : AgesOk h (List.replicate h.length 0) := by
  refine ⟨by simp, fun n hn => by rw [(List.mem_replicate.mp hn).2]; exact Int.le_refl _, fun q hq => ?_⟩
  have h1 := List.of_mem_zip hq
  have := ok.lo _ h1.2
  rw [(List.mem_replicate.mp h1.1).2]
  omega
def waysD : List D := [.str "room", .str "share", .str "oldest"]
theorem ways_of {d : D} (h : d ∈ waysD) : ∃ w : Way, d = .str w.s := by
  simp [waysD] at h
  rcases h with rfl | rfl | rfl
  · exact ⟨.room, rfl⟩
  · exact ⟨.share, rfl⟩
  · exact ⟨.oldest, rfl⟩
theorem sm_row (r : List Str) (h : r.length ≤ 10000) : Sm 3 (.tup (r.map .str)) := .tup (fun d hd => by
  obtain ⟨x, _, rfl⟩ := List.mem_map.mp hd
  exact .str x) (by simpa using h)
theorem sm_two {d : D} (h : Sm 4 d) : Sm 5 (.tup [d, d]) := .tup (fun e he => by
  simp at he
  rw [he]; exact h) (by simp)
theorem p_right {S : Sto} (w : Wl S) {k : Nat} (hk : k < 2) : WE (sem__law_right [.obj k] κs S) (fun d S' => d = .bl true ∧ Wl S') E := by
  unfold sem__law_right m__law_right
  refine WE_semOf.mpr (WS.cut (fun sl S' => ∃ h w, HouseOk h ∧ Wl S' ∧ sl = [some (.val (.obj k)), some (.val (hD h)), some (.val (.str (Way.s w))), none, none, none, none, none, none]) ?_ ?_)
  · simp -dsimp
    refine (p_house w hk (most := 4) (room := 100) (by decide) (by decide) (by decide) (by decide)).use ?_
    rintro d S1 ⟨h, rfl, dr, w1⟩
    obtain ⟨d, S2, e, hd, w2⟩ := p_of w1 hk (ds := waysD) (by simp [waysD]) (by simp [waysD])
    obtain ⟨wy, rfl⟩ := ways_of hd
    have z3 : (3 : Nat) ≤ sizeLine := by decide
    simp -dsimp [waysD] at e
    simp -dsimp [z3, z2', e]
    exact .mk ⟨h, wy, dr.ok, w2, rfl⟩
  rintro sl S1 ⟨h, wy, ok, w1, rfl⟩
  have hl := ok.le
  refine WS.cut (fun sl S' => ∃ L : List Ages, (∀ C, Closed h C → ∀ a, C a → a ∈ L) ∧ Wl S' ∧ sl = [some (.val (.obj k)), some (.val (hD h)), some (.val (.str wy.s)), some (.val (.lst (L.map agD))), none, none, none, none, none]) ?_ ?_
  · simp -dsimp
    refine (q_safe ok).use ?_
    rintro d S2 ⟨L, rfl, _, hC, rfl⟩
    exact .mk ⟨L, hC, w1, rfl⟩
  rintro sl S2 ⟨L, hC, w2, rfl⟩
  simp -dsimp
  refine WS_for (fun ds S' => (∀ d ∈ ds, ∃ a, d = agD a ∧ AgesOk h a) ∧ Wl S') (fun ds sl S' => ∃ (x4 x6 x7 x8 : Option Sl), (∀ d ∈ ds, ∃ a, d = agD a ∧ AgesOk h a) ∧ Wl S' ∧
    sl = [some (.val (.obj k)), some (.val (hD h)), some (.val (.str wy.s)), some (.val (.lst (L.map agD))), x4, none, x6, x7, x8]) ?_ ?_ ?_ ?_
  · have z3 : (3 : Nat) ≤ sizeLine := by decide
    have hn : h ≠ [] := fun z => by have := ok.ne; rw [z] at this; simp at this
    simp -dsimp [q_nothing h hn (by omega)]
    refine (p_ages w2 hk ok).use ?_
    rintro d S3 ⟨a1, rfl, o1, w3⟩
    simp -dsimp
    refine (p_ages w3 hk ok).use ?_
    rintro d S4 ⟨a2, rfl, o2, w4⟩
    simp -dsimp [z3]
    refine .mk ⟨fun d hd => ?_, w4⟩
    simp at hd
    rcases hd with rfl | rfl | rfl
    · exact ⟨_, rfl, nothing_ok ok⟩
    · exact ⟨_, rfl, o1⟩
    · exact ⟨_, rfl, o2⟩
  · rintro ds S3 ⟨h1, h2⟩
    exact ⟨none, none, none, none, h1, h2, rfl⟩
  · rintro d ds sl S3 ⟨x4, x6, x7, x8, hd, w3, rfl⟩
    obtain ⟨a, rfl, oka⟩ := hd d List.mem_cons_self
    have hd' := fun d hx => hd d (List.mem_cons_of_mem _ hx)
    have nel : neD (.lst [.str (lookBy h a wy), .str (lookBy h a wy)]) (.lst [.str (lookBy h a wy), .str (lookBy h a wy)]) = some false := by
      have := neD_cod (cod_lst cod_str) (by decide) [lookBy h a wy, lookBy h a wy] [lookBy h a wy, lookBy h a wy]
      simpa using this
    have ml := memD_lst cod_ag (by decide) a L true
    simp -dsimp [q_rule_look ok oka wy, p_rule_look ok oka wy, z2', nel]
    obtain ⟨n, l, h1, hh⟩ := p_told ok oka wy
    have hn := l.bound ok oka
    rcases hh with ⟨he, hb, hrr, _⟩ | ⟨j, hj, he, hb, hrr, _⟩
    · have ql := fun κs S => q_led (κs := κs) (S := S) ok oka wy l h1 (.tup [.int (n : Int), .non]) (.inl ⟨he, rfl⟩)
      have s1 := fun κs S => q_law_same (κs := κs) (S := S) (sm_two (.int (n : Int)))
      have s2 := fun κs S => q_law_same (κs := κs) (S := S) (sm_two .non)
      simp -dsimp [ql, hb, hrr, z2', s1, s2]
      exact .mk ⟨_, _, _, _, hd', w3, rfl⟩
    · have ql := fun κs S => q_led (κs := κs) (S := S) ok oka wy l h1 _ (.inr ⟨j, hj, he, rfl⟩)
      rw [cut_looks h wy a (by omega)] at ql hrr
      obtain ⟨r, er⟩ : ∃ r, r = (List.range (n - j)).map fun i => lookAt h wy a (j + i) := ⟨_, rfl⟩
      have kr := led_ring oka l hj he
      rw [← er] at ql hrr kr
      have rl : r.length ≤ 600 := by rw [er]; simp; omega
      have inL : a ∈ L := hC _ (led_closed ok oka l h1 hj he) a ⟨0, by omega, rfl⟩
      have s1 := fun κs S => q_law_same (κs := κs) (S := S) (sm_two .non)
      have s2 := fun κs S => q_law_same (κs := κs) (S := S) (sm_two (.tup (n := 3) (ds := r.map .str) (fun d hd => by
        obtain ⟨x, _, rfl⟩ := List.mem_map.mp hd
        exact .str x) (by rw [List.length_map]; omega)))
      have kq := fun κs S => q_keeps_round (κs := κs) (S := S) h r (by omega) (by omega)
      rw [kr] at kq
      have kq' : ∀ κs S, sem__law_keeps_round [hD h, .tup (r.map .str)] κs S = some (.ok (.bl true) S) := kq
      simp -dsimp [ql, hb, hrr, z2', s1, s2, ml, inL, kq']
      exact .mk ⟨_, _, _, _, hd', w3, rfl⟩
  · rintro sl S3 ⟨x4, x6, x7, x8, _, w3, rfl⟩
    simp -dsimp
    refine WE_comp_map agD (ringB h wy) agD (allA h) ?_ (fun a ha => ?_) ?_
    · simp -dsimp [q_all_ages ok]
    · have oka := allA_ok ha
      obtain ⟨n, l, h1, hh⟩ := p_told ok oka wy
      rcases hh with ⟨he, _, _, hb⟩ | ⟨j, hj, he, _, _, hb⟩
      · have ql := fun κs S => q_led (κs := κs) (S := S) ok oka wy l h1 (.tup [.int (n : Int), .non]) (.inl ⟨he, rfl⟩)
        have rb : ringB h wy a = false := by unfold ringB; rw [hb]
        simp -dsimp [ql, ix_tup0, rb]
      · have ql := fun κs S => q_led (κs := κs) (S := S) ok oka wy l h1 _ (.inr ⟨j, hj, he, rfl⟩)
        have rb : ringB h wy a = true := by unfold ringB; rw [hb]
        simp -dsimp [ql, ix_tup0, rb]
    · have s1 := fun κs S => q_law_same (κs := κs) (S := S) (sm_two (.int (((allA h).filter (ringB h wy)).length : Nat)))
      simp -dsimp [p_kept ok wy, z2', s1]
      exact w3
end k76
set_option linter.all false
set_option autoImplicit false
set_option maxRecDepth 100000
namespace k76
open Lk PySem PySem.Spec PyProof.Rows L2 NdefX
variable {κs : List Lk.Sem} {S : Sto} {E : Exc → Sto → Prop}
/-! ### the law -/
@[simp] theorem sl1_klst (a : List D) : sl1 (.klst a) = .val (.klst a) := rfl
@[simp] theorem lenD_klst (ds : List D) : lenD [.klst ds] = some (.int ds.length) := rfl
theorem mod_lt (x : Int) : 0 ≤ x % 2147483563 ∧ x % 2147483563 < 2147483563 := by constructor <;> omega
theorem p_well (ns : List Int) (hn : ns.length ≤ 63) {lap : Nat} (hlap : lap < 2) : WE (sem__law_well [.klst (ns.map .int), .int lap] κs S) (fun d S' => d = .obj S.length ∧ ∃ a b, S' = S ++ [wellD a b 0] ∧ 0 ≤ b ∧ b < 2147483563) E := by
  unfold sem__law_well m__law_well
  have ml : mulD (.int 7013) (.int (lap : Int)) = some (.int (7013 * (lap : Int))) := mulD_l (by decide)
  have z3 : (3 : Nat) ≤ sizeLine := by decide
  simp -dsimp [ml]
  have cu : Lk.cutD (.klst (ns.map .int)) none (some (12 : Int)) = some (.lst ((ns.take 12).map .int)) := by
    show some (D.lst (cutL (ns.map D.int) none (some ((12 : Nat) : Int)))) = _
    rw [cutL_take, List.map_take]
  refine WS_for (fun ds S' => ds = (ns.take 12).map .int ∧ S' = S) (fun ds sl S' => ∃ (st : Int) (x3 : Option Sl) (rest : List Int), ds = rest.map .int ∧ 0 ≤ st ∧ st < 2147483563 ∧ S' = S ∧
    sl = [some (.val (.klst (ns.map .int))), some (.val (.int lap)), some (.val (.int st)), x3, none]) ?_ ?_ ?_ ?_
  · simp -dsimp [cu]
    exact .mk ⟨by rw [List.map_take], rfl⟩
  · rintro ds S1 ⟨rfl, rfl⟩
    exact ⟨_, none, _, rfl, by omega, by omega, rfl, rfl⟩
  · rintro d ds sl S1 ⟨st, x3, rest, e1, s0, s1, rfl, rfl⟩
    cases rest with
    | nil => cases e1
    | cons c rest =>
      cases e1
      have m1 : mulD (.int st) (.int 45281) = some (.int (st * 45281)) := mulD_l (small_lt s0 s1)
      have m2 : modD (.int c) (.int 2147483549) = some (.int (c % 2147483549)) := modD_ok (by decide)
      have m3 : modD (.int (st * 45281 + c % 2147483549 + 19)) (.int 2147483563) = some (.int ((st * 45281 + c % 2147483549 + 19) % 2147483563)) := modD_ok (by decide)
      simp -dsimp [m1, m2, m3]
      exact .mk ⟨_, _, rest, rfl, (mod_lt _).1, (mod_lt _).2, rfl, rfl⟩
  · rintro sl S1 ⟨st, x3, rest, _, s0, s1, rfl, rfl⟩
    obtain ⟨own, eo⟩ : ∃ own, own = if lap < ns.length then ns.getD lap 0 else 0 := ⟨_, rfl⟩
    have fin : WE ((mIf (mCmpT ltD (mBor 1) (mCall lenD (mCons (mBor 0) (mNil)))) (mCall intD (mCons (mIxS (mBor 0) (mVar 1)) (mNil))) (mRet (.int 0))) ⟨[some (.val (.klst (ns.map .int))), some (.val (.int lap)), some (.val (.int st)), x3, none], κs⟩ S1) (fun d S' => d = .int own ∧ S' = S1) (fun _ _ => False) := by
      simp -dsimp
      refine WI.dec (fun h => ?_) fun h => ?_
      · have h' : lap < ns.length := by omega
        have ix : ixS S1 (.klst (ns.map .int)) (.int (lap : Int)) = some (.int own) := by
          show L2.atI (ns.map D.int) (lap : Int) = _
          rw [atI_at _ _ (by simpa using h'), eo, if_pos h', getD_lt _ _ _ h']
          simp
        simp -dsimp [ix]
      · have h' : ¬ lap < ns.length := by omega
        simp -dsimp [eo, h']
    refine WS_seq.mpr (WS_set.mpr (WE.of (WE.eq fin) ?_))
    have m1 : mulD (.int st) (.int 41) = some (.int (st * 41)) := mulD_l (small_lt s0 s1)
    have m2 : modD (.int own) (.int 2147483549) = some (.int (own % 2147483549)) := modD_ok (by decide)
    have m3 : mulD (.int (own % 2147483549)) (.int 15031) = some (.int (own % 2147483549 * 15031)) := mulD_l (by
      unfold small
      simp
      omega)
    have m4 : modD (.int (st * 41 + own % 2147483549 * 15031 + 5)) (.int 2147483563) = some (.int ((st * 41 + own % 2147483549 * 15031 + 5) % 2147483563)) := modD_ok (by decide)
    have pw : powD (.int 10) (.int 15) = some (.int 1000000000000000) := by
      simp [powD]
    have ab : absD [.int own] = some (.int (if own < 0 then -own else own)) := rfl
    simp -dsimp [m1, m2, m3, m4]
    refine WI.dec (fun h => ?_) fun h => ?_
    · simp -dsimp [ab, z3]
      exact ⟨_, _, rfl, (mod_lt _).1, (mod_lt _).2⟩
    · simp -dsimp [pw]
      refine WI.dec (fun h => ?_) fun h => ?_
      · simp -dsimp [ab, z3]
        exact ⟨_, _, rfl, (mod_lt _).1, (mod_lt _).2⟩
      · simp -dsimp [z3]
        exact ⟨_, _, rfl, (mod_lt _).1, (mod_lt _).2⟩
theorem math (ns : List Int) (hn : ns.length ≤ 63) : ∃ S, sem_law [.klst (ns.map .int)] [] [] = some (.ok (.bl true) S) := by
  have main : WE (sem_law [.klst (ns.map .int)] [] []) (fun d S' => d = .bl true) fun _ _ => False := by
    unfold sem_law m_law
    have r2 : rng1D (.int 2) = some [.int 0, .int 1] := rfl
    have r16 := rng1_nat 16 (by decide)
    have r16' : rng1D (.int 16) = some ((List.range 16).map natD) := r16
    have z3 : (3 : Nat) ≤ sizeLine := by decide
    simp -dsimp
    refine WE_comp (fun ds S' => ds = [.int 0, .int 1] ∧ S' = []) (fun ds acc S' => (ds = [.int 0, .int 1] ∧ acc = [] ∧ S' = []) ∨ (ds = [.int 1] ∧ acc = [.obj 0] ∧ ∃ a b, S' = [wellD a b 0] ∧ 0 ≤ b ∧ b < 2147483563) ∨ (ds = [] ∧ acc = [.obj 0, .obj 1] ∧ Wl S')) ?_ ?_ ?_ ?_
    · simp -dsimp [r2]
      exact .mk ⟨rfl, rfl⟩
    · rintro ds S1 ⟨rfl, rfl⟩
      exact .inl ⟨rfl, rfl, rfl⟩
    · rintro d ds acc S1 (⟨e, rfl, rfl⟩ | ⟨e, rfl, a, b, rfl, b0, b1⟩ | ⟨e, _⟩)
      · obtain ⟨rfl, rfl⟩ := List.cons.inj e
        simp -dsimp
        refine (p_well (κs := []) (S := []) (E := fun _ _ => False) ns hn (lap := 0) (by decide)).use ?_
        rintro d S2 ⟨rfl, a, b, rfl, h0, h1⟩
        exact .mk (.inr (.inl ⟨rfl, rfl, a, b, rfl, h0, h1⟩))
      · obtain ⟨rfl, rfl⟩ := List.cons.inj e
        simp -dsimp
        refine (p_well (κs := []) (S := [wellD a b 0]) (E := fun _ _ => False) ns hn (lap := 1) (by decide)).use ?_
        rintro d S2 ⟨rfl, a', b', rfl, h0, h1⟩
        refine .mk (.inr (.inr ⟨rfl, rfl, fun k hk => ?_⟩))
        rcases Nat.lt_or_ge k 1 with q | q
        · have : k = 0 := by omega
          subst this
          exact ⟨a, b, 0, rfl, b0, b1⟩
        · have : k = 1 := by omega
          subst this
          exact ⟨a', b', 0, rfl, h0, h1⟩
      · cases e
    · rintro acc S1 (⟨e, _⟩ | ⟨e, _⟩ | ⟨_, rfl, w⟩)
      · cases e
      · cases e
      · simp -dsimp
        refine WE_comp (fun ds S' => ds = (List.range 16).map natD ∧ S' = S1) (fun ds acc S' => ∃ (i : Nat) (js : List Nat), ds = js.map natD ∧ acc = (List.range i).map (fun _ => .bl true) ∧ Wl S') ?_ ?_ ?_ ?_
        · simp -dsimp [r16']
          exact .mk ⟨rfl, rfl⟩
        · rintro ds S2 ⟨rfl, rfl⟩
          exact ⟨0, _, rfl, rfl, w⟩
        · rintro d ds acc S2 ⟨i, js, e, rfl, w2⟩
          cases js with
          | nil => cases e
          | cons j js =>
            cases e
            have id : intD [natD j] = some (.int (j : Int)) := rfl
            have m2 : modD (.int (j : Int)) (.int 2) = some (.int ((j : Int) % 2)) := modD_ok (by decide)
            have ix : ixS S2 (.lst [.obj 0, .obj 1]) (.int ((j : Int) % 2)) = some (.obj (j % 2)) := by
              have e : (j : Int) % 2 = ((j % 2 : Nat) : Int) := by omega
              rw [e]
              rcases Nat.mod_two_eq_zero_or_one j with q | q <;> rw [q] <;> rfl
            simp -dsimp [id, m2, ix]
            refine (p_right w2 (k := j % 2) (Nat.mod_lt _ (by decide))).use ?_
            rintro d S3 ⟨rfl, w3⟩
            exact .mk ⟨i + 1, js, rfl, by rw [List.range_succ, List.map_append]; rfl, w3⟩
        · rintro acc S2 ⟨i, js, _, rfl, _⟩
          have := allD_map (fun _ : Nat => true) (List.range i)
          simp -dsimp [this]
  obtain ⟨d, S', e, rfl⟩ := main.get
  exact ⟨S', e⟩
end k76
theorem PySem.Challenge.cw_lookturns_k76_whole_simple_rules_holds : PySem.Challenge.rw_lookturns_k76_whole_simple_rules.Holds := by
  exact k76_holds k76.math
