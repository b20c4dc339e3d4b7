import PyProof.Rows.All
import Wide.All
import OpenK.AllK
import Wide.FinOn
import HandS.ForMost
import HandS.Walk
import HandS.Lambda
import HandS.ExcInit
import HandS.Wide
import HandS.WideBits
import HandS.TupAny
import HandS.SortInts
import HandS.IsInst
import HandS.Zip
import KE.GoesMore
import HandS.Ends
import PyProof.ReprReads
import PyProof.StrHeap
import HandS.Star
import HandS.ClsMeth
import HandS.Property
import HandS.Defaults
import PyProof.EnumMake
import PyProof.Draws
import KE.KUnpackStar
import PyProof.AttrMiss
import PyProof.InstNe
import KE.KOpsOwn
import HandS.Nested
import KE.KSuper
import HandS.Style
import HandS.SortKw
import KE.DatumOrd
import HandS.Conv
import HandS.TupMul
import HandS.GenList
import HandS.MakeKwOnly
import HandS.Dict
import HandS.Iter
import HandS.Comp
import KE.KFromBytes
import HandS.ExcSuper
import HandS.ExcIs
import HandS.ExcField
import HandS.EndTab
import KE.KExcIs
import KE.KEqNest
import PySem.Challenge.RW_rulerkeep_k27_stores_made_or_refused
set_option linter.all false
set_option autoImplicit false
set_option maxRecDepth 100000
set_option maxHeartbeats 4000000
set_option Elab.async false
/-! Ev0: data, cells, the evaluator's monads; how data lie in the hand layer's heap. -/
namespace Ev
open PySem L2

/-- data -/
inductive D where
  | non | bl (b : Bool) | int (i : Int) | str (x : Str)
  | tup (xs : List D) | lst (xs : List D)
  | ob (c : Nat) (x : D)
  | g (n : Nat)
  | sc (ns : List Int)
  | cl (c : Nat)
  | dct (kvs : List (Int × Int))
  | exc (c : Nat) (x : D)
  | da (xs : List D)
inductive Cell where
  | lst (xs : List D)
  | ob (c : Nat) (x : D)
  | dct (kvs : List (Int × Int))
  | tbl (n : Nat)
abbrev GS := List Cell
inductive Slot where
  | no | v (d : D) | own (xs : List D)
abbrev Env := List Slot
inductive R (α : Type) where
  | ok (a : α) (g : GS) | ex (c : Nat) (d : D) (g : GS) | bad
abbrev M (α : Type) := Env → GS → R α
inductive RS where
  | nx (e : Env) (g : GS) | rt (d : D) (g : GS) | bk (e : Env) (g : GS) | ct (e : Env) (g : GS)
  | ex (c : Nat) (d : D) (g : GS) | bad
abbrev MS := Env → GS → RS

def R.bind {α β : Type} (r : R α) (f : α → GS → R β) : R β := match r with
  | .ok a g => f a g
  | .ex c d g => .ex c d g
  | .bad => .bad
@[simp] theorem R.bind_ok {α β : Type} (a : α) (g : GS) (f : α → GS → R β) : (R.ok a g).bind f = f a g := rfl
@[simp] theorem R.bind_ex {α β : Type} (c : Nat) (d : D) (g : GS) (f : α → GS → R β) : (R.ex c d g : R α).bind f = .ex c d g := rfl
@[simp] theorem R.bind_bad {α β : Type} (f : α → GS → R β) : (R.bad : R α).bind f = .bad := rfl
def R.of {α : Type} (o : Option α) (g : GS) : R α := match o with
  | some a => .ok a g
  | none => .bad
@[simp] theorem R.of_some {α : Type} (a : α) (g : GS) : R.of (some a) g = .ok a g := rfl
@[simp] theorem R.of_none {α : Type} (g : GS) : (R.of none g : R α) = .bad := rfl
/-- an expression's value, on to a statement -/
def R.toS {α : Type} (r : R α) (f : α → GS → RS) : RS := match r with
  | .ok a g => f a g
  | .ex c d g => .ex c d g
  | .bad => .bad
@[simp] theorem R.toS_ok {α : Type} (a : α) (g : GS) (f : α → GS → RS) : (R.ok a g).toS f = f a g := rfl
@[simp] theorem R.toS_ex {α : Type} (c : Nat) (d : D) (g : GS) (f : α → GS → RS) : (R.ex c d g : R α).toS f = .ex c d g := rfl
@[simp] theorem R.toS_bad {α : Type} (f : α → GS → RS) : (R.bad : R α).toS f = .bad := rfl

/-- where the program's own things stand -/
structure Wd where
  K : PySem.W.Frag
  cl : Nat → Addr
  fd : Nat → Str
  ec : Nat → Addr
  tb : Nat → Addr
  tq : Nat → Str
/-- addresses that data may not name: the callers' own lists, this frame's own lists, the cells -/
structure Fb where
  nu : List Addr
  om : List Addr
  th : List Addr
def Fb.has (F : Fb) (a : Addr) : Prop := a ∈ F.nu ∨ a ∈ F.om ∨ a ∈ F.th

def TupAt (W : Wd) (F : Fb) (H : Hp) (a : Addr) (vs : List V) : Prop :=
  (Rd H a (.tup vs) ∧ ¬ F.has a) ∨
    ∃ (o : Obj) (its : Array Value) (n : Nat), W.K.lookup a = some o ∧ o.cls = .type "tuple" ∧ o.data = .seq its n ∧ its.size ≤ sizeLine ∧ Vals vs its.toList
/-- the script: a locked list, or one of the module's own -/
def ScAt (W : Wd) (F : Fb) (H : Hp) (a : Addr) (ns : List Int) : Prop :=
  ((∃ o, H a = some (.frz o (.lst (ns.map V.int)))) ∧ ¬ F.has a) ∨
    ∃ (o : Obj) (its : Array Value) (n : Nat), W.K.lookup a = some o ∧ o.cls = .type "list" ∧ o.dict = none ∧ o.data = .seq its n ∧ its.size ≤ sizeLine ∧ Vals (ns.map V.int) its.toList
theorem ScAt.seq {W : Wd} {F : Fb} {H : Hp} {a : Addr} {ns : List Int} (h : ScAt W F H a ns) : SqL W.K H a (ns.map V.int) := by
  rcases h with ⟨⟨o, h⟩, _⟩ | h
  · exact .inl (.inr ⟨o, h⟩)
  · exact .inr h
/-- a dict's pair -/
def dkv (p : Int × Int) : Key × V := (Sum.inl p.1, V.int p.2)
/-- the pair of a dict of one text key -/
def dka (v : V) : Key × V := (Sum.inr "a", v)
/-- a caught exception's object: its class, its dict -/
def exv (a C d : Addr) : HO := .ext fun h => ∃ oe vs, h.get? a = some oe ∧ oe.cls = .ref C ∧ oe.dict = some d ∧ oe.data = .fields vs
/-- a table of code objects of one name -/
def TabF (F : Fb) (H : Hp) (P : Addr) (q : Str) : Prop := ∃ ps : Array Value, H P = some (.tbl ps) ∧ TriplesOk ps.toList ∧ ∀ (pos : Pos) (cv : Value), codeAmong pos ps.toList = some cv → ∃ c, cv = .ref c ∧ H c = some (LamX.CodeO c q) ∧ ¬ F.has c
mutual
def Rep (W : Wd) (F : Fb) (H : Hp) : D → V → Prop
  | .non, v => v = .non
  | .bl b, v => v = .bl b
  | .int i, v => v = .int i
  | .str x, v => v = .str x
  | .tup ds, v => ∃ a vs, v = .ref a ∧ TupAt W F H a vs ∧ RepL W F H ds vs
  | .lst ds, v => ∃ a vs, v = .ref a ∧ H a = some (.lst vs) ∧ ¬ F.has a ∧ RepL W F H ds vs
  | .ob c d, v => ∃ a dx u, v = .ref a ∧ H a = some (.ins (W.cl c) dx [(W.fd c, u)]) ∧ ¬ F.has a ∧ Rep W F H d u
  | .g n, v => ∃ a, F.th[n]? = some a ∧ v = .ref a
  | .sc ns, v => ∃ a, v = .ref a ∧ ScAt W F H a ns
  | .cl c, v => v = .ref (W.cl c)
  | .dct kvs, v => ∃ a, v = .ref a ∧ Rd H a (.dK (kvs.map dkv)) ∧ ¬ F.has a
  | .exc c d, v => ∃ a dx u, v = .ref a ∧ H a = some (exv a (W.ec c) dx) ∧ ¬ F.has a ∧ H dx = some (.xd [("value", u)]) ∧ ¬ F.has dx ∧ Rep W F H d u
  | .da ds, v => ∃ a vs, v = .ref a ∧ Rd H a (.dK (vs.map dka)) ∧ ¬ F.has a ∧ RepL W F H ds vs
def RepL (W : Wd) (F : Fb) (H : Hp) : List D → List V → Prop
  | [], vs => vs = []
  | d :: ds, vs => ∃ v r, vs = v :: r ∧ Rep W F H d v ∧ RepL W F H ds r
end

/-- what keeps data as they are -/
structure Up (F F' : Fb) (H H' : Hp) : Prop where
  keep : ∀ a o, H a = some o → ¬ F.has a → H' a = some o ∧ ¬ F'.has a
  th : ∃ more, F'.th = F.th ++ more
theorem Up.rd {F F' : Fb} {H H' : Hp} {a : Addr} {o : HO} (u : Up F F' H H') (h : Rd H a o) (n : ¬ F.has a) : Rd H' a o ∧ ¬ F'.has a := by
  rcases h with h | ⟨o', h⟩
  · exact ⟨.inl (u.keep _ _ h n).1, (u.keep _ _ h n).2⟩
  · exact ⟨.inr ⟨o', (u.keep _ _ h n).1⟩, (u.keep _ _ h n).2⟩
theorem TupAt.up {W : Wd} {F F' : Fb} {H H' : Hp} {a : Addr} {vs : List V} (u : Up F F' H H') (h : TupAt W F H a vs) : TupAt W F' H' a vs := by
  rcases h with ⟨h, n⟩ | h
  · exact .inl (u.rd h n)
  · exact .inr h
mutual
theorem Rep.up {W : Wd} {F F' : Fb} {H H' : Hp} (u : Up F F' H H') : ∀ {d : D} {v : V}, Rep W F H d v → Rep W F' H' d v
  | .non, v, h => h
  | .bl _, v, h => h
  | .int _, v, h => h
  | .str _, v, h => h
  | .tup ds, v, h => by
    obtain ⟨a, vs, e, t, r⟩ := h
    exact ⟨a, vs, e, t.up u, RepL.up u r⟩
  | .lst ds, v, h => by
    obtain ⟨a, vs, e, t, n, r⟩ := h
    exact ⟨a, vs, e, (u.keep _ _ t n).1, (u.keep _ _ t n).2, RepL.up u r⟩
  | .ob c d, v, h => by
    obtain ⟨a, dx, x, e, t, n, r⟩ := h
    exact ⟨a, dx, x, e, (u.keep _ _ t n).1, (u.keep _ _ t n).2, Rep.up u r⟩
  | .g n, v, h => by
    obtain ⟨a, e, r⟩ := h
    obtain ⟨m, hm⟩ := u.th
    refine ⟨a, ?_, r⟩
    rw [hm, List.getElem?_append_left (List.getElem?_eq_some_iff.mp e).1]
    exact e
  | .cl _, v, h => h
  | .dct kvs, v, h => by
    obtain ⟨a, e, t, n⟩ := h
    exact ⟨a, e, u.rd t n⟩
  | .exc c d, v, h => by
    obtain ⟨a, dx, x, e, t, n, t2, n2, r⟩ := h
    exact ⟨a, dx, x, e, (u.keep _ _ t n).1, (u.keep _ _ t n).2, (u.keep _ _ t2 n2).1, (u.keep _ _ t2 n2).2, Rep.up u r⟩
  | .da ds, v, h => by
    obtain ⟨a, vs, e, t, n, r⟩ := h
    exact ⟨a, vs, e, (u.rd t n).1, (u.rd t n).2, RepL.up u r⟩
  | .sc ns, v, h => by
    obtain ⟨a, e, t⟩ := h
    refine ⟨a, e, ?_⟩
    rcases t with ⟨⟨o, t⟩, n⟩ | t
    · exact .inl ⟨⟨o, (u.keep _ _ t n).1⟩, (u.keep _ _ t n).2⟩
    · exact .inr t
theorem RepL.up {W : Wd} {F F' : Fb} {H H' : Hp} (u : Up F F' H H') : ∀ {ds : List D} {vs : List V}, RepL W F H ds vs → RepL W F' H' ds vs
  | [], vs, h => h
  | d :: ds, vs, h => by
    obtain ⟨v, r, e, h1, h2⟩ := h
    exact ⟨v, r, e, Rep.up u h1, RepL.up u h2⟩
end
theorem TupAt.seq {W : Wd} {F : Fb} {H : Hp} {a : Addr} {vs : List V} (h : TupAt W F H a vs) : SqT W.K H a vs := by
  rcases h with ⟨h, _⟩ | h
  · exact .inl h
  · exact .inr h

/-! ### lists of data -/
section
variable {W : Wd} {F : Fb} {H : Hp}
theorem RepL.length : ∀ {ds : List D} {vs : List V}, RepL W F H ds vs → ds.length = vs.length
  | [], vs, h => by cases (show vs = [] from h); rfl
  | d :: ds, vs, h => by
    obtain ⟨v, r, rfl, _, h2⟩ := h
    simp [RepL.length h2]
theorem RepL.get : ∀ {ds : List D} {vs : List V} {i : Nat} {d : D}, RepL W F H ds vs → ds[i]? = some d → ∃ v, vs[i]? = some v ∧ Rep W F H d v
  | [], vs, i, d, h, e => by simp at e
  | d :: ds, vs, 0, x, h, e => by
    obtain ⟨v, r, rfl, h1, h2⟩ := h
    simp at e
    exact ⟨v, rfl, e ▸ h1⟩
  | d :: ds, vs, i + 1, x, h, e => by
    obtain ⟨v, r, rfl, h1, h2⟩ := h
    simpa using RepL.get h2 (by simpa using e)
theorem RepL.get' : ∀ {ds : List D} {vs : List V} {i : Nat} {v : V}, RepL W F H ds vs → vs[i]? = some v → ∃ d, ds[i]? = some d ∧ Rep W F H d v := fun {ds vs i v} h e => by
  have hl := h.length
  have hi : i < ds.length := by rw [hl]; exact (List.getElem?_eq_some_iff.mp e).1
  obtain ⟨w, e2, r⟩ := h.get (List.getElem?_eq_getElem hi)
  rw [e] at e2
  cases e2
  exact ⟨_, List.getElem?_eq_getElem hi, r⟩
theorem RepL.append : ∀ {ds es : List D} {vs ws : List V}, RepL W F H ds vs → RepL W F H es ws → RepL W F H (ds ++ es) (vs ++ ws)
  | [], es, vs, ws, h, k => by cases (show vs = [] from h); exact k
  | d :: ds, es, vs, ws, h, k => by
    obtain ⟨v, r, rfl, h1, h2⟩ := h
    exact ⟨v, r ++ ws, rfl, h1, RepL.append h2 k⟩
theorem RepL.drop : ∀ (n : Nat) {ds : List D} {vs : List V}, RepL W F H ds vs → RepL W F H (ds.drop n) (vs.drop n)
  | 0, _, _, h => h
  | _ + 1, [], vs, h => by cases (show vs = [] from h); exact rfl
  | n + 1, d :: ds, vs, h => by
    obtain ⟨v, r, rfl, h1, h2⟩ := h
    exact RepL.drop n h2
theorem RepL.take : ∀ (n : Nat) {ds : List D} {vs : List V}, RepL W F H ds vs → RepL W F H (ds.take n) (vs.take n)
  | 0, _, _, _ => rfl
  | _ + 1, [], vs, h => by cases (show vs = [] from h); exact rfl
  | n + 1, d :: ds, vs, h => by
    obtain ⟨v, r, rfl, h1, h2⟩ := h
    exact ⟨v, r.take n, rfl, h1, RepL.take n h2⟩
theorem RepL.set : ∀ (i : Nat) {ds : List D} {vs : List V} {d : D} {v : V}, RepL W F H ds vs → Rep W F H d v → RepL W F H (ds.set i d) (vs.set i v)
  | _, [], vs, _, _, h, _ => by cases (show vs = [] from h); exact rfl
  | 0, x :: ds, vs, d, v, h, k => by
    obtain ⟨w, r, rfl, h1, h2⟩ := h
    exact ⟨v, r, rfl, k, h2⟩
  | i + 1, x :: ds, vs, d, v, h, k => by
    obtain ⟨w, r, rfl, h1, h2⟩ := h
    exact ⟨w, r.set i v, rfl, h1, RepL.set i h2 k⟩
theorem RepL.nil : RepL W F H [] [] := rfl
theorem RepL.one {d : D} {v : V} (h : Rep W F H d v) : RepL W F H [d] [v] := ⟨v, [], rfl, h, rfl⟩
theorem RepL.ints : ∀ {ns : List Int} {vs : List V}, RepL W F H (ns.map D.int) vs → vs = ns.map V.int
  | [], vs, h => h
  | n :: ns, vs, h => by
    obtain ⟨v, r, rfl, h1, h2⟩ := h
    rw [show v = V.int n from h1, RepL.ints h2]; rfl
theorem RepL.bls : ∀ {ns : List Bool} {vs : List V}, RepL W F H (ns.map D.bl) vs → vs = ns.map V.bl
  | [], vs, h => h
  | n :: ns, vs, h => by
    obtain ⟨v, r, rfl, h1, h2⟩ := h
    rw [show v = V.bl n from h1, RepL.bls h2]; rfl
end

/-! ### cells -/
def CellR (W : Wd) (F : Fb) (H : Hp) (a : Addr) : Cell → Prop
  | .lst ds => ∃ vs, H a = some (.lst vs) ∧ RepL W F H ds vs
  | .ob c d => ∃ dx u, H a = some (.ins (W.cl c) dx [(W.fd c, u)]) ∧ Rep W F H d u
  | .dct kvs => H a = some (.dK (kvs.map dkv))
  | .tbl n => a = W.tb n ∧ TabF F H a (W.tq n)
structure Cells (W : Wd) (F : Fb) (H : Hp) (g : List Cell) : Prop where
  nd : F.th.Nodup
  len : F.th.length = g.length
  cel : ∀ (n : Nat) (a : Addr) (c : Cell), F.th[n]? = some a → g[n]? = some c → CellR W F H a c
  tr : ∀ a, F.has a → ∃ o, H a = some o
  dj : ∀ a ∈ F.th, a ∉ F.nu ∧ a ∉ F.om
  dj2 : ∀ a ∈ F.om, a ∉ F.nu
/-- an expression leaves all but the cells as it stood -/
structure Xe (F F' : Fb) (H H' : Hp) : Prop where
  keep : ∀ a o, H a = some o → a ∉ F.th → H' a = some o
  st : ∀ a o, H a = some o → ∃ o', H' a = some o'
  th : ∃ more, F'.th = F.th ++ more ∧ ∀ a ∈ more, H a = none
  nu : F'.nu = F.nu
  om : F'.om = F.om
/-- a statement, all but the cells and the frame's own lists -/
structure Xs (F F' : Fb) (H H' : Hp) : Prop where
  keep : ∀ a o, H a = some o → a ∉ F.th → a ∉ F.om → H' a = some o
  st : ∀ a o, H a = some o → ∃ o', H' a = some o'
  th : ∃ more, F'.th = F.th ++ more ∧ ∀ a ∈ more, H a = none
  nu : F'.nu = F.nu
  om : ∀ a ∈ F'.om, a ∈ F.om ∨ H a = none
theorem Xe.refl {F : Fb} {H : Hp} : Xe F F H H := ⟨fun _ _ h _ => h, fun _ o h => ⟨o, h⟩, ⟨[], by simp, by simp⟩, rfl, rfl⟩
theorem Xe.xs {F F' : Fb} {H H' : Hp} (x : Xe F F' H H') : Xs F F' H H' := ⟨fun a o h n _ => x.keep a o h n, x.st, x.th, x.nu, fun a h => .inl (by rw [x.om] at h; exact h)⟩
theorem Xs.refl {F : Fb} {H : Hp} : Xs F F H H := Xe.refl.xs
theorem Xs.up {F F' : Fb} {H H' : Hp} (x : Xs F F' H H') : Up F F' H H' := by
  refine ⟨fun a o h n => ⟨x.keep a o h (fun z => n (.inr (.inr z))) fun z => n (.inr (.inl z)), fun z => ?_⟩, let ⟨m, e, _⟩ := x.th; ⟨m, e⟩⟩
  rcases z with z | z | z
  · rw [x.nu] at z
    exact n (.inl z)
  · rcases x.om a z with z | z
    · exact n (.inr (.inl z))
    · rw [h] at z; cases z
  · obtain ⟨m, e, hm⟩ := x.th
    rw [e] at z
    rcases List.mem_append.mp z with z | z
    · exact n (.inr (.inr z))
    · have := hm a z
      rw [h] at this; cases this
theorem Xe.up {F F' : Fb} {H H' : Hp} (x : Xe F F' H H') : Up F F' H H' := x.xs.up
theorem back_none {H H1 : Hp} (st : ∀ a o, H a = some o → ∃ o', H1 a = some o') {a : Addr} (h : H1 a = none) : H a = none := by
  cases q : H a with
  | none => rfl
  | some o =>
    obtain ⟨o', e⟩ := st a o q
    rw [h] at e; cases e
theorem Xs.trans {F F1 F2 : Fb} {H H1 H2 : Hp} (x : Xs F F1 H H1) (y : Xs F1 F2 H1 H2) : Xs F F2 H H2 := by
  obtain ⟨m, e, hm⟩ := x.th
  obtain ⟨m2, e2, hm2⟩ := y.th
  refine ⟨fun a o h n no => ?_, fun a o h => ?_, ⟨m ++ m2, by rw [e2, e, List.append_assoc], fun a ha => ?_⟩, y.nu.trans x.nu, fun a ha => ?_⟩
  · refine y.keep a o (x.keep a o h n no) (fun z => ?_) fun z => ?_
    · rw [e] at z
      rcases List.mem_append.mp z with z | z
      · exact n z
      · have := hm a z
        rw [h] at this; cases this
    · rcases x.om a z with z | z
      · exact no z
      · rw [h] at z; cases z
  · obtain ⟨o', h'⟩ := x.st a o h
    exact y.st a o' h'
  · rcases List.mem_append.mp ha with ha | ha
    · exact hm a ha
    · exact back_none x.st (hm2 a ha)
  · rcases y.om a ha with h | h
    · exact x.om a h
    · exact .inr (back_none x.st h)
theorem Xe.trans {F F1 F2 : Fb} {H H1 H2 : Hp} (x : Xe F F1 H H1) (y : Xe F1 F2 H1 H2) : Xe F F2 H H2 := by
  have z := x.xs.trans y.xs
  refine ⟨fun a o h n => y.keep a o (x.keep a o h n) fun q => ?_, z.st, z.th, z.nu, y.om.trans x.om⟩
  obtain ⟨m, e, hm⟩ := x.th
  rw [e] at q
  rcases List.mem_append.mp q with q | q
  · exact n q
  · have := hm a q
    rw [h] at this; cases this
/-- a new object -/
theorem Cells.none {W : Wd} {F : Fb} {H : Hp} {g : List Cell} (c : Cells W F H g) {p : Addr} (h : H p = none) : ¬ F.has p := fun z => by
  obtain ⟨o, e⟩ := c.tr p z
  rw [h] at e; cases e
theorem Xe.new {F : Fb} {H : Hp} {p : Addr} {o : HO} (h : H p = none) : Xe F F H (upd H p o) :=
  ⟨fun a u e _ => by rw [upd_ne (ne_of_none e h)]; exact e, fun a u e => ⟨u, by rw [upd_ne (ne_of_none e h)]; exact e⟩, ⟨[], by simp, by simp⟩, rfl, rfl⟩
theorem CellR.up {W : Wd} {F F' : Fb} {H H' : Hp} (u : Up F F' H H') {a : Addr} {c : Cell} (h : CellR W F H a c) (k : H' a = H a) : CellR W F' H' a c := by
  cases c with
  | lst ds =>
    obtain ⟨vs, e, r⟩ := h
    exact ⟨vs, k.trans e, r.up u⟩
  | ob c d =>
    obtain ⟨dx, x, e, r⟩ := h
    exact ⟨dx, x, k.trans e, r.up u⟩
  | dct kvs => exact k.trans h
  | tbl q =>
    obtain ⟨e0, ps, e, t, r⟩ := h
    refine ⟨e0, ps, k.trans e, t, fun pos cv hc => ?_⟩
    obtain ⟨c, e1, e2, e3⟩ := r pos cv hc
    exact ⟨c, e1, (u.keep _ _ e2 e3).1, (u.keep _ _ e2 e3).2⟩
/-- all that is tracked stays -/
theorem Cells.stay {W : Wd} {F : Fb} {H H' : Hp} {g : List Cell} (c : Cells W F H g) (k : ∀ a o, H a = some o → H' a = some o) : Cells W F H' g := by
  have u : Up F F H H' := ⟨fun a o e n => ⟨k a o e, n⟩, [], by simp⟩
  refine ⟨c.nd, c.len, fun n a x h1 h2 => (c.cel n a x h1 h2).up u ?_, fun a h => ?_, c.dj, c.dj2⟩
  · obtain ⟨o, e⟩ := c.tr a (.inr (.inr (List.mem_of_getElem? h1)))
    rw [e, k a o e]
  · obtain ⟨o, e⟩ := c.tr a h
    exact ⟨o, k a o e⟩
theorem Cells.new {W : Wd} {F : Fb} {H : Hp} {g : List Cell} (c : Cells W F H g) {p : Addr} {o : HO} (h : H p = Option.none) : Cells W F (upd H p o) g :=
  c.stay fun a u e => by rw [upd_ne (ne_of_none e h)]; exact e

/-! ### the state -/
structure St (W : Wd) (F : Fb) (e : Env) (g : List Cell) (σ : L2.St) (H : Hp) : Prop where
  cells : Cells W F H g
  len : e.length = σ.length
  slots : ∀ (i : Nat) (d : D), e[i]? = some (.v d) → ∃ v, σ[i]? = some (some v) ∧ Rep W F H d v
  owns : ∀ (i : Nat) (ds : List D), e[i]? = some (.own ds) → ∃ a vs, σ[i]? = some (some (.ref a)) ∧ a ∈ F.om ∧ H a = some (.lst vs) ∧ RepL W F H ds vs
  apart : ∀ (i j : Nat) (ds es : List D) (a : Addr), i ≠ j → e[i]? = some (.own ds) → e[j]? = some (.own es) → σ[i]? = some (some (.ref a)) → σ[j]? ≠ some (some (.ref a))
theorem St.step {W : Wd} {F F' : Fb} {e : Env} {g g' : List Cell} {σ : L2.St} {H H' : Hp} (s : St W F e g σ H) (x : Xe F F' H H') (c : Cells W F' H' g') : St W F' e g' σ H' := by
  refine ⟨c, s.len, fun i d h => ?_, fun i ds h => ?_, s.apart⟩
  · obtain ⟨v, h1, h2⟩ := s.slots i d h
    exact ⟨v, h1, h2.up x.up⟩
  · obtain ⟨a, vs, h1, h2, h3, h4⟩ := s.owns i ds h
    refine ⟨a, vs, h1, by rw [x.om]; exact h2, x.keep a _ h3 fun z => (s.cells.dj a z).2 h2, h4.up x.up⟩

/-! ### what is only looked at: this frame's own lists too -/
def Look (W : Wd) (F : Fb) (H : Hp) : D → V → Prop
  | .lst ds, v => ∃ a vs, v = .ref a ∧ H a = some (.lst vs) ∧ a ∉ F.th ∧ RepL W F H ds vs
  | d, v => Rep W F H d v
theorem Rep.look {W : Wd} {F : Fb} {H : Hp} {d : D} {v : V} (h : Rep W F H d v) : Look W F H d v := by
  cases d with
  | lst ds =>
    obtain ⟨a, vs, e, k, n, r⟩ := h
    exact ⟨a, vs, e, k, fun z => n (.inr (.inr z)), r⟩
  | _ => exact h
theorem Look.up {W : Wd} {F F' : Fb} {H H' : Hp} (x : Xe F F' H H') {d : D} {v : V} (h : Look W F H d v) : Look W F' H' d v := by
  cases d with
  | lst ds =>
    obtain ⟨a, vs, e, k, n, r⟩ := h
    refine ⟨a, vs, e, x.keep _ _ k n, fun z => ?_, r.up x.up⟩
    obtain ⟨m, e, hm⟩ := x.th
    rw [e] at z
    rcases List.mem_append.mp z with z | z
    · exact n z
    · have := hm _ z
      rw [k] at this; cases this
  | _ => exact Rep.up (d := _) x.up h
def LookL (W : Wd) (F : Fb) (H : Hp) : List D → List V → Prop
  | [], vs => vs = []
  | d :: ds, vs => ∃ v r, vs = v :: r ∧ Look W F H d v ∧ LookL W F H ds r
theorem LookL.up {W : Wd} {F F' : Fb} {H H' : Hp} (x : Xe F F' H H') : ∀ {ds : List D} {vs : List V}, LookL W F H ds vs → LookL W F' H' ds vs
  | [], vs, h => h
  | d :: ds, vs, h => by
    obtain ⟨v, r, e, h1, h2⟩ := h
    exact ⟨v, r, e, h1.up x, LookL.up x h2⟩

/-! ### what is wanted behind -/
/-- an exception's dict -/
def Xd (F : Fb) (H : Hp) (dx : Addr) (v : V) : Prop := H dx = some (.xd [("value", v)]) ∧ ¬ F.has dx
theorem Xd.up {F F' : Fb} {H H' : Hp} (u : Up F F' H H') {dx : Addr} {v : V} (h : Xd F H dx v) : Xd F' H' dx v := u.keep _ _ h.1 h.2
def Post {α : Type} (W : Wd) (E : XK) (F : Fb) (H : Hp) (r : R α) (k : α → List Cell → Fb → Hp → Prop) : Prop := match r with
  | .ok a g => ∀ F' H', Xe F F' H H' → Cells W F' H' g → k a g F' H'
  | .ex c d g => ∀ F' H' dx v, Xe F F' H H' → Cells W F' H' g → Rep W F' H' d v → Xd F' H' dx v → E (.ref (W.ec c)) (some dx) H'
  | .bad => False
section
variable {W : Wd} {E : XK} {F F' : Fb} {H H' : Hp} {α β : Type}
theorem Post.mono {r : R α} {k k' : α → List Cell → Fb → Hp → Prop} (p : Post W E F H r k) (h : ∀ a g F' H', Xe F F' H H' → Cells W F' H' g → k a g F' H' → k' a g F' H') : Post W E F H r k' := by
  cases r with
  | ok a g => exact fun F' H' x c => h a g F' H' x c (p F' H' x c)
  | ex c d g => exact p
  | bad => exact p
theorem Post.on {r : R α} {k : α → List Cell → Fb → Hp → Prop} (p : Post W E F H r k) (x : Xe F F' H H') : Post W E F' H' r k := by
  cases r with
  | ok a g => exact fun F2 H2 y c => p F2 H2 (x.trans y) c
  | ex c d g => exact fun F2 H2 dx v y c => p F2 H2 dx v (x.trans y) c
  | bad => exact p
theorem Post.bind {r : R α} {f : α → List Cell → R β} {k : β → List Cell → Fb → Hp → Prop} (p : Post W E F H (r.bind f) k) : Post W E F H r fun a g F' H' => Post W E F' H' (f a g) k := by
  cases r with
  | ok a g => exact fun F2 H2 y c => Post.on (r := f a g) p y
  | ex c d g => exact p
  | bad => exact p
end
/-- an expression's reading by the evaluator -/
def tM (W : Wd) (E : XK) (m : M D) : TE := fun σ H Q => ∃ F e g, St W F e g σ H ∧ Post W E F H (m e g) fun d _ F' H' => ∀ v, Rep W F' H' d v → Q v H'
def tB (W : Wd) (E : XK) (m : M Bool) : TT := fun σ H Q => ∃ F e g, St W F e g σ H ∧ Post W E F H (m e g) fun b _ _ H' => Q b H'
def tL (W : Wd) (E : XK) (m : M (List D)) : TA := fun σ H Q => ∃ F e g, St W F e g σ H ∧ Post W E F H (m e g) fun ds _ F' H' => ∀ vs, RepL W F' H' ds vs → Q vs H'
/-- a new list, no one else's: it is laid last -/
def tF (W : Wd) (E : XK) (m : M (List D)) : TE := fun σ H Q => ∃ F e g, St W F e g σ H ∧ Post W E F H (m e g) fun ds _ F' H' => ∀ p vs, H' p = none → RepL W F' H' ds vs → Q (.ref p) (upd H' p (.lst vs))
/-- .. of what is only looked at -/
def tS (W : Wd) (E : XK) (m : M D) : TE := fun σ H Q => ∃ F e g, St W F e g σ H ∧ Post W E F H (m e g) fun d _ F' H' => ∀ v, Look W F' H' d v → Q v H'
def tLs (W : Wd) (E : XK) (m : M (List D)) : TA := fun σ H Q => ∃ F e g, St W F e g σ H ∧ Post W E F H (m e g) fun ds _ F' H' => ∀ vs, LookL W F' H' ds vs → Q vs H'
end Ev

/-! Ev1: expressions of the evaluator and their soundness. -/
namespace Ev
open PySem PySem.Spec PyProof.Rows L2

/-! ### weaker readings -/
theorem weakE {X : Cx} {e : Expr} {t t' : TE} (h : PE X e t) (w : ∀ σ H Q, t' σ H Q → t σ H Q) : PE X e t' := ⟨fun pins s σ H Q I q => h.run pins s σ H Q I (w σ H Q q)⟩
theorem weakT {X : Cx} {e : Expr} {t t' : TT} (h : PT X e t) (w : ∀ σ H Q, t' σ H Q → t σ H Q) : PT X e t' := ⟨fun pins s σ H Q I q => h.run pins s σ H Q I (w σ H Q q)⟩
theorem weakW {X : Cx} {e : Expr} {t t' : TT} (h : PW X e t) (w : ∀ σ H Q, t' σ H Q → t σ H Q) : PW X e t' := ⟨fun wh pins s σ H Q I q => h.run wh pins s σ H Q I (w σ H Q q)⟩
theorem weakA {X : Cx} {es : List Expr} {t t' : TA} (h : PA X es t) (w : ∀ σ H Q, t' σ H Q → t σ H Q) : PA X es t' := ⟨fun pos pins s σ H Q I q => h.run pos pins s σ H Q I (w σ H Q q)⟩
theorem weakS {X : Cx} {e : Stmt} {t t' : TS} (h : PS X e t) (w : ∀ D σ H, t' D σ H → t D σ H) : PS X e t' := ⟨fun pins s σ H D I q => h.run pins s σ H D I (w D σ H q)⟩
theorem weakB {X : Cx} {e : List Stmt} {t t' : TS} (h : PSs X e t) (w : ∀ D σ H, t' D σ H → t D σ H) : PSs X e t' := ⟨fun pins s σ H D I q => h.run pins s σ H D I (w D σ H q)⟩

section
variable {W : Wd} {E : XK} {X : Cx}
/-! ### names, constants -/
def varM (i : Nat) : M D := fun e g => match e[i]? with
  | some (.v d) => .ok d g
  | _ => .bad
/-- a name, this frame's own list too, for what only looks at it -/
def seeM (i : Nat) : M D := fun e g => match e[i]? with
  | some (.v d) => .ok d g
  | some (.own ds) => .ok (.lst ds) g
  | _ => .bad
def conM (d : D) : M D := fun _ g => .ok d g
theorem r_var {i : Nat} {σ : L2.St} {H : Hp} {Q : VK} (h : tM W E (varM i) σ H Q) : tVar i σ H Q := by
  obtain ⟨F, e, g, S, p⟩ := h
  unfold varM at p
  cases q : e[i]? with
  | none => rw [q] at p; exact p.elim
  | some sl =>
    rw [q] at p
    cases sl with
    | no => exact p.elim
    | own ds => exact p.elim
    | v d =>
      obtain ⟨v, h1, h2⟩ := S.slots i d q
      exact ⟨v, h1, p F H .refl S.cells v h2⟩
theorem ev_var (i : Nat) {x : Str} {pos : Pos} (hN : X.N[i]? = some x := by rfl) (hv : Vis X.env.scope x := by first | exact Or.inl rfl | exact Or.inr (Or.inl rfl) | exact Or.inr (Or.inr rfl)) (hd : (x == ("__debug__" : Str)) = false := by decide)
    (hcd : (x == ("__classdict__" : Str)) = false := by decide) : PE X (.Name x pos) (tM W E (varM i)) := weakE (pe_var hN hv hd hcd) fun _ _ _ h => r_var h
theorem r_con {d : D} {v : V} (hr : ∀ F H, Rep W F H d v) {σ : L2.St} {H : Hp} {Q : VK} (h : tM W E (conM d) σ H Q) : tC v σ H Q := by
  obtain ⟨F, e, g, S, p⟩ := h
  exact p F H .refl S.cells v (hr F H)
theorem ev_int {i : Int} {j pos} : PE X (.Constant (.int i) j pos) (tM W E (conM (.int i))) := weakE pe_int fun _ _ _ h => r_con (d := .int i) (v := .int i) (fun _ _ => rfl) h
theorem ev_bl {b : Bool} {j pos} : PE X (.Constant (.bool b) j pos) (tM W E (conM (.bl b))) := weakE pe_bl fun _ _ _ h => r_con (d := .bl b) (v := .bl b) (fun _ _ => rfl) h
theorem ev_non {j pos} : PE X (.Constant .none j pos) (tM W E (conM .non)) := weakE pe_non fun _ _ _ h => r_con (d := .non) (v := .non) (fun _ _ => rfl) h
theorem ev_str {x : Str} {j pos} : PE X (.Constant (.str x) j pos) (tM W E (conM (.str x))) := weakE pe_str fun _ _ _ h => r_con (d := .str x) (v := .str x) (fun _ _ => rfl) h
/-- any value is looked at -/
theorem PE.see {e : Expr} {m : M D} (h : PE X e (tM W E m)) : PE X e (tS W E m) := weakE h fun σ H Q ⟨F, e, g, S, p⟩ => ⟨F, e, g, S, p.mono fun _ _ _ _ _ _ k v r => k v r.look⟩
theorem r_see {i : Nat} {σ : L2.St} {H : Hp} {Q : VK} (h : tS W E (seeM i) σ H Q) : tVar i σ H Q := by
  obtain ⟨F, e, g, S, p⟩ := h
  unfold seeM at p
  cases q : e[i]? with
  | none => rw [q] at p; exact p.elim
  | some sl =>
    rw [q] at p
    cases sl with
    | no => exact p.elim
    | own ds =>
      obtain ⟨a, vs, h1, h2, h3, h4⟩ := S.owns i ds q
      exact ⟨_, h1, p F H .refl S.cells _ ⟨a, vs, rfl, h3, fun z => (S.cells.dj a z).2 h2, h4⟩⟩
    | v d =>
      obtain ⟨v, h1, h2⟩ := S.slots i d q
      exact ⟨v, h1, p F H .refl S.cells v h2.look⟩
theorem ev_see (i : Nat) {x : Str} {pos : Pos} (hN : X.N[i]? = some x := by rfl) (hv : Vis X.env.scope x := by first | exact Or.inl rfl | exact Or.inr (Or.inl rfl) | exact Or.inr (Or.inr rfl)) (hd : (x == ("__debug__" : Str)) = false := by decide)
    (hcd : (x == ("__classdict__" : Str)) = false := by decide) : PE X (.Name x pos) (tS W E (seeM i)) := weakE (pe_var hN hv hd hcd) fun _ _ _ h => r_see h

/-! ### two operands -/
def opM (f : D → D → List Cell → Option D) (a b : M D) : M D := fun e g => (a e g).bind fun x g1 => (b e g1).bind fun y g2 => R.of (f x y g2) g2
/-- f is what the rule r does -/
def RF (W : Wd) (f : D → D → List Cell → Option D) (r : R2) : Prop := ∀ (F : Fb) (H : Hp) (g : List Cell) (x y d : D) (v u : V) (Q : VK), Cells W F H g → Look W F H x v → Look W F H y u → f x y g = some d →
  (∀ H' w, (∀ a o, H a = some o → H' a = some o) → Cells W F H' g → Rep W F H' d w → Q w H') → r v u H Q
theorem Xe.all {F : Fb} {H H' : Hp} (k : ∀ a o, H a = some o → H' a = some o) : Xe F F H H' := ⟨fun a o h _ => k a o h, fun a o h => ⟨o, k a o h⟩, ⟨[], by simp, by simp⟩, rfl, rfl⟩
theorem post_of {F : Fb} {H : Hp} {α : Type} {o : Option α} {g : List Cell} {k : α → List Cell → Fb → Hp → Prop} (p : Post W E F H (R.of o g) k) : ∃ a, o = some a ∧ ∀ F' H', Xe F F' H H' → Cells W F' H' g → k a g F' H' := by
  cases o with
  | none => exact p.elim
  | some a => exact ⟨a, rfl, p⟩
theorem r_op {f : D → D → List Cell → Option D} {r : R2} (rf : RF W f r) {a b : M D} {σ : L2.St} {H : Hp} {Q : VK} (h : tM W E (opM f a b) σ H Q) : tOp r (tS W E a) (tS W E b) σ H Q := by
  obtain ⟨F, e, g, S, p⟩ := h
  refine ⟨F, e, g, S, (Post.bind p).mono fun x g1 F1 H1 x1 c1 p1 v r1 => ?_⟩
  refine ⟨F1, e, g1, S.step x1 c1, (Post.bind p1).mono fun y g2 F2 H2 x2 c2 p2 u r2 => ?_⟩
  obtain ⟨d, hd, k⟩ := post_of p2
  exact rf F2 H2 g2 x y d v u Q c2 (r1.up x2) r2 hd fun H' w kp c r => k F2 H' (.all kp) c w r
theorem ev_op {f : D → D → List Cell → Option D} {op : Operator} {r : R2} {a b : Expr} {pos : Pos} {ma mb : M D} (ho : OpR X (binaryOp op) r) (rf : RF W f r) (ha : PE X a (tS W E ma)) (hb : PE X b (tS W E mb)) :
    PE X (.BinOp a op b pos) (tM W E (opM f ma mb)) := weakE (pe_op ho ha hb) fun _ _ _ h => r_op rf h
/-- two ways -/
def orF (f f' : D → D → List Cell → Option D) : D → D → List Cell → Option D := fun x y g => match f x y g with
  | some d => some d
  | none => f' x y g
theorem RF.or {f f' : D → D → List Cell → Option D} {r r' : R2} (h : RF W f r) (h' : RF W f' r') : RF W (orF f f') (fun x y H Q => r x y H Q ∨ r' x y H Q) := by
  intro F H g x y d v u Q c rx ry e k
  unfold orF at e
  cases q : f x y g with
  | some d' =>
    simp only [q, Option.some.injEq] at e
    subst e
    exact .inl (h F H g x y _ v u Q c rx ry q k)
  | none =>
    simp only [q] at e
    exact .inr (h' F H g x y d v u Q c rx ry e k)

/-! #### whole numbers -/
def onI (C : Int → Int → Bool) (z : Int → Int → D) : D → D → List Cell → Option D := fun x y _ => match x, y with
  | .int i, .int j => if C i j = true then some (z i j) else none
  | _, _ => none
theorem rf_int {C : Int → Int → Bool} {P : Int → Int → Prop} {z : Int → Int → D} {z' : Int → Int → V} (hp : ∀ i j, C i j = true → P i j) (hz : ∀ i j F H, Rep W F H (z i j) (z' i j)) : RF W (onI C z) (rI P z') := by
  intro F H g x y d v u Q c rx ry e k
  cases x <;> try (cases e; done)
  cases y <;> try (cases e; done)
  rename_i i j
  simp only [onI] at e
  split at e
  · rename_i hc
    cases e
    exact ⟨i, j, rx, ry, hp i j hc, k H _ (fun _ _ h => h) c (hz i j F H)⟩
  · cases e
def onI0 (z : Int → Int → D) : D → D → List Cell → Option D := fun x y _ => match x, y with
  | .int i, .int j => some (z i j)
  | _, _ => none
theorem rf_int0 {z : Int → Int → D} {z' : Int → Int → V} (hz : ∀ i j F H, Rep W F H (z i j) (z' i j)) : RF W (onI0 z) (rI0 z') := by
  intro F H g x y d v u Q c rx ry e k
  cases x <;> try (cases e; done)
  cases y <;> try (cases e; done)
  rename_i i j
  cases e
  exact ⟨i, j, rx, ry, k H _ (fun _ _ h => h) c (hz i j F H)⟩
theorem RF.nm {f : D → D → List Cell → Option D} {r r' : R2} (h : RF W f r) (w : ∀ x y H Q, r x y H Q → r' x y H Q) : RF W f r' := fun F H g x y d v u Q c rx ry e k => w _ _ _ _ (h F H g x y d v u Q c rx ry e k)

def addS : D → D → List Cell → Option D := fun x y _ => match x, y with
  | .str i, .str j => if i.length + j.length ≤ 16777216 then some (.str (i ++ j)) else none
  | _, _ => none
theorem rf_addS : RF W addS (fun x y H Q => ∃ i j, x = .str i ∧ y = .str j ∧ i.length + j.length ≤ sizeLine ∧ Q (.str (i ++ j)) H) := by
  intro F H g x y d v u Q c rx ry e k
  cases x <;> try (cases e; done)
  cases y <;> try (cases e; done)
  rename_i i j
  simp only [addS] at e
  split at e
  · rename_i hc
    cases e
    exact ⟨i, j, rx, ry, by rw [sizeLine_eq]; exact hc, k H _ (fun _ _ h => h) c (show Rep W F H (.str (i ++ j)) _ from rfl)⟩
  · cases e
theorem tup_new {F : Fb} {H : Hp} {g : List Cell} (c : Cells W F H g) {p : Addr} (np : H p = none) {ds : List D} {vs : List V} (r : RepL W F H ds vs) : Rep W F (upd H p (.tup vs)) (.tup ds) (.ref p) :=
  ⟨p, vs, rfl, .inl ⟨.inl upd_same, c.none np⟩, r.up (Xe.new np).up⟩
theorem lst_new {F : Fb} {H : Hp} {g : List Cell} (c : Cells W F H g) {p : Addr} (np : H p = none) {ds : List D} {vs : List V} (r : RepL W F H ds vs) : Rep W F (upd H p (.lst vs)) (.lst ds) (.ref p) :=
  ⟨p, vs, rfl, upd_same, c.none np, r.up (Xe.new np).up⟩
theorem keep_new {H : Hp} {p : Addr} {o : HO} (np : H p = none) : ∀ a u, H a = some u → upd H p o a = some u := fun a u e => by rw [upd_ne (ne_of_none e np)]; exact e
def addT : D → D → List Cell → Option D := fun x y _ => match x, y with
  | .tup xs, .tup ys => if xs.length + ys.length ≤ 16777216 then some (.tup (xs ++ ys)) else none
  | _, _ => none
theorem nil_of_len {ds : List D} {vs : List V} {F : Fb} {H : Hp} (r : RepL W F H ds vs) (h : vs = []) : ds = [] := by
  have := r.length
  rw [h] at this
  exact List.eq_nil_of_length_eq_zero this
theorem rf_addT : RF W addT (rCatA W.K) := by
  intro F H g x y d v u Q c rx ry e k
  cases x <;> try (cases e; done)
  cases y <;> try (cases e; done)
  rename_i xs ys
  simp only [addT] at e
  split at e
  · rename_i hc
    cases e
    obtain ⟨a, vs, rfl, ta, ra⟩ := rx
    obtain ⟨b, us, rfl, tb, rb⟩ := ry
    refine ⟨a, b, vs, us, rfl, rfl, ta.seq, tb.seq, by rw [sizeLine_eq, ← ra.length, ← rb.length]; exact hc, fun h => ?_, fun _ h => ?_, fun _ _ p np => ?_⟩
    · have h0 := nil_of_len ra h
      subst h0
      exact k H _ (fun _ _ h => h) c ⟨b, us, rfl, tb, rb⟩
    · have h0 := nil_of_len rb h
      subst h0
      rw [List.append_nil] at k
      exact k H _ (fun _ _ h => h) c ⟨a, vs, rfl, ta, ra⟩
    · exact k _ _ (keep_new np) (c.new np) (tup_new c np (ra.append rb))
  · cases e
def addL : D → D → List Cell → Option D := fun x y _ => match x, y with
  | .lst xs, .lst ys => if xs.length + ys.length ≤ 16777216 then some (.lst (xs ++ ys)) else none
  | _, _ => none
theorem rf_addL : RF W addL rCat := by
  intro F H g x y d v u Q c rx ry e k
  cases x <;> try (cases e; done)
  cases y <;> try (cases e; done)
  rename_i xs ys
  simp only [addL] at e
  split at e
  · rename_i hc
    cases e
    obtain ⟨a, vs, rfl, ta, _, ra⟩ := rx
    obtain ⟨b, us, rfl, tb, _, rb⟩ := ry
    refine ⟨a, b, vs, us, rfl, rfl, ta, tb, by rw [sizeLine_eq, ← ra.length, ← rb.length]; exact hc, fun p np => ?_⟩
    exact k _ _ (keep_new np) (c.new np) (lst_new c np (ra.append rb))
  · cases e
def addD : D → D → List Cell → Option D := orF (onI0 fun i j => .int (i + j)) (orF addT (orF addL addS))
def subD : D → D → List Cell → Option D := onI0 fun i j => .int (i - j)
def mulI : D → D → List Cell → Option D := onI (fun i j => decide ((-18446744073709551616 < i ∧ i < 18446744073709551616) ∨ (-18446744073709551616 < j ∧ j < 18446744073709551616))) fun i j => .int (i * j)
def repL : D → D → List Cell → Option D := fun x y _ => match x, y with
  | .lst xs, .int k => if -1000000 ≤ k ∧ k ≤ 1000000 ∧ xs.length * k.toNat ≤ 16777216 then some (.lst (List.replicate k.toNat xs).flatten) else none
  | _, _ => none
def fdivD : D → D → List Cell → Option D := onI (fun _ j => decide (0 < j ∧ j < 340282366920938463463374607431768211456)) fun i j => .int (i / j)
def modD : D → D → List Cell → Option D := onI (fun _ j => decide (0 < j)) fun i j => .int (i % j)
def powD : D → D → List Cell → Option D := onI (fun i j => decide (0 ≤ j ∧ j ≤ 1000000 ∧ i.natAbs < 18446744073709551616)) fun i j => .int (i ^ j.toNat)
def shlD : D → D → List Cell → Option D := onI (fun i j => decide (0 ≤ j ∧ j ≤ 1000000 ∧ i.natAbs < 18446744073709551616)) fun i j => .int (i * 2 ^ j.toNat)
def shrD : D → D → List Cell → Option D := onI (fun _ j => decide (0 ≤ j)) fun i j => .int (i / 2 ^ j.toNat)
def andD : D → D → List Cell → Option D := onI0 fun i j => .int (Builtin.bitAnd i j)
theorem rep_int {F : Fb} {H : Hp} (i : Int) : Rep W F H (.int i) (.int i) := rfl
theorem rep_bl {F : Fb} {H : Hp} (i : Bool) : Rep W F H (.bl i) (.bl i) := rfl
theorem rep_str {F : Fb} {H : Hp} (i : Str) : Rep W F H (.str i) (.str i) := rfl
theorem RepL.flat : ∀ (k : Nat) {F : Fb} {H : Hp} {ds : List D} {vs : List V}, RepL W F H ds vs → RepL W F H (List.replicate k ds).flatten (List.replicate k vs).flatten
  | 0, _, _, _, _, _ => rfl
  | k + 1, F, H, ds, vs, r => by
    rw [List.replicate_succ, List.replicate_succ, List.flatten_cons, List.flatten_cons]
    exact r.append (RepL.flat k r)
theorem rf_repL : RF W repL rRep := by
  intro F H g x y d v u Q c rx ry e k
  cases x <;> try (cases e; done)
  cases y <;> try (cases e; done)
  rename_i xs n
  simp only [repL] at e
  split at e
  · rename_i hc
    cases e
    obtain ⟨a, vs, rfl, ta, _, ra⟩ := rx
    refine ⟨a, n, vs, rfl, ry, ta, by omega, by omega, by rw [sizeLine_eq, ← ra.length]; exact hc.2.2, fun p np => ?_⟩
    exact k _ _ (keep_new np) (c.new np) (lst_new c np (RepL.flat _ ra))
  · cases e
def mulD : D → D → List Cell → Option D := orF mulI repL
variable {a b : Expr} {pos : Pos} {ma mb : M D}
theorem ev_add (hK : X.K = W.K) (ha : PE X a (tS W E ma)) (hb : PE X b (tS W E mb)) : PE X (.BinOp a .Add b pos) (tM W E (opM addD ma mb)) :=
  ev_op ((op_add).or ((op_catA).or ((op_cat).or (op_add_str)))) ((rf_int0 fun i j _ _ => rep_int _).or ((by rw [hK]; exact rf_addT : RF W addT (rCatA X.K)).or (rf_addL.or rf_addS))) ha hb
theorem ev_sub (ha : PE X a (tS W E ma)) (hb : PE X b (tS W E mb)) : PE X (.BinOp a .Sub b pos) (tM W E (opM subD ma mb)) := ev_op op_sub (rf_int0 fun _ _ _ _ => rep_int _) ha hb
theorem ev_mul (ha : PE X a (tS W E ma)) (hb : PE X b (tS W E mb)) : PE X (.BinOp a .Mult b pos) (tM W E (opM mulD ma mb)) :=
  ev_op (op_mul.or op_rep) ((rf_int (fun i j h => by have := of_decide_eq_true h; unfold CMul; omega) fun _ _ _ _ => rep_int _).or rf_repL) ha hb
theorem ev_fdiv (ha : PE X a (tS W E ma)) (hb : PE X b (tS W E mb)) : PE X (.BinOp a .FloorDiv b pos) (tM W E (opM fdivD ma mb)) :=
  ev_op op_fdivW (rf_int (fun i j h => by
    have := of_decide_eq_true h
    exact wide_div (b := 128) this.1 (by omega) (by decide) (by decide)) fun _ _ _ _ => rep_int _) ha hb
theorem ev_mod (ha : PE X a (tS W E ma)) (hb : PE X b (tS W E mb)) : PE X (.BinOp a .Mod b pos) (tM W E (opM modD ma mb)) := ev_op op_mod (rf_int (fun i j h => of_decide_eq_true h) fun _ _ _ _ => rep_int _) ha hb
theorem ev_pow (ha : PE X a (tS W E ma)) (hb : PE X b (tS W E mb)) : PE X (.BinOp a .Pow b pos) (tM W E (opM powD ma mb)) := ev_op op_pow (rf_int (fun i j h => (of_decide_eq_true h : 0 ≤ j ∧ j ≤ 1000000 ∧ i.natAbs < 18446744073709551616)) fun _ _ _ _ => rep_int _) ha hb
theorem ev_shl (ha : PE X a (tS W E ma)) (hb : PE X b (tS W E mb)) : PE X (.BinOp a .LShift b pos) (tM W E (opM shlD ma mb)) := ev_op op_shl (rf_int (fun i j h => (of_decide_eq_true h : 0 ≤ j ∧ j ≤ 1000000 ∧ i.natAbs < 18446744073709551616)) fun _ _ _ _ => rep_int _) ha hb
theorem ev_and_ (ha : PE X a (tS W E ma)) (hb : PE X b (tS W E mb)) : PE X (.BinOp a .BitAnd b pos) (tM W E (opM andD ma mb)) := ev_op op_and (rf_int0 fun _ _ _ _ => rep_int _) ha hb
/-- a written power -/
theorem op_pow_wide : OpR X (binaryOp .Pow) (rI (fun i j => 0 ≤ j ∧ (Builtin.Int.intBits i : Int) * j ≤ 2 ^ 27) fun i j => .int (i ^ j.toNat)) := opI fun _ _ _ _ _ _ _ hc q => PyProof.Rows.pow_int hc.1 hc.2 q
def powW : D → D → List Cell → Option D := onI (fun i j => decide (0 ≤ j ∧ (Builtin.Int.intBits i : Int) * j ≤ 2 ^ 27)) fun i j => .int (i ^ j.toNat)
theorem ev_powW (ha : PE X a (tS W E ma)) (hb : PE X b (tS W E mb)) : PE X (.BinOp a .Pow b pos) (tM W E (opM powW ma mb)) := ev_op op_pow_wide (rf_int (fun i j h => of_decide_eq_true h) fun _ _ _ _ => rep_int _) ha hb
theorem ev_con {e : Expr} {m : M D} {d : D} (h : PE X e (tM W E m)) (he : ∀ e g, m e g = .ok d g) : PE X e (tM W E (conM d)) := by
  have : m = conM d := by funext e g; exact he e g
  rw [← this]; exact h

/-! ### one operand -/
def unM (f : D → List Cell → Option D) (a : M D) : M D := fun e g => (a e g).bind fun x g1 => R.of (f x g1) g1
def negD : D → List Cell → Option D := fun x _ => match x with
  | .int i => some (.int (-i))
  | _ => none
theorem ev_neg (ha : PE X a (tS W E ma)) : PE X (.UnaryOp .USub a pos) (tM W E (unM negD ma)) := weakE (pe_un un_neg ha) fun σ H Q ⟨F, e, g, S, p⟩ => by
  refine ⟨F, e, g, S, (Post.bind p).mono fun x g1 F1 H1 x1 c1 p1 v r1 => ?_⟩
  obtain ⟨d, hd, k⟩ := post_of p1
  cases x <;> try (cases hd; done)
  rename_i i
  cases hd
  exact ⟨i, r1, k F1 H1 .refl c1 _ (rep_int _)⟩

/-! ### comparisons -/
def ltD : D → D → List Cell → Option D := onI0 fun i j => .bl (decide (i < j))
def leD : D → D → List Cell → Option D := onI0 fun i j => .bl (decide (i ≤ j))
def gtD : D → D → List Cell → Option D := onI0 fun i j => .bl (decide (j < i))
def geD : D → D → List Cell → Option D := onI0 fun i j => .bl (decide (j ≤ i))
def isND : D → D → List Cell → Option D := fun x y _ => match x, y with
  | .non, .non => some (.bl true)
  | _, .non => some (.bl false)
  | _, _ => none
def notND : D → D → List Cell → Option D := fun x y _ => match x, y with
  | .non, .non => some (.bl false)
  | _, .non => some (.bl true)
  | _, _ => none
mutual
/-- as the library's data -/
def toPd : D → PyData
  | .non => .none
  | .bl b => .bool b
  | .int i => .int i
  | .str x => .str x
  | .tup ds => .tuple (toPds ds)
  | .lst ds => .list (toPds ds)
  | _ => .none
def toPds : List D → List PyData
  | [] => []
  | d :: ds => toPd d :: toPds ds
end
mutual
/-- data that == and repr take, of a depth up to n -/
def okd : D → Nat → Bool
  | .non, _ => true
  | .bl _, _ => true
  | .int _, _ => true
  | .str x, _ => x.cps.all (· < 0x110000)
  | .tup ds, n => decide (0 < n) && okds ds (n - 1)
  | .lst ds, n => decide (0 < n) && okds ds (n - 1)
  | _, _ => false
def okds : List D → Nat → Bool
  | [], _ => true
  | d :: ds, n => okd d n && okds ds n
end
mutual
theorem dp_of {F : Fb} {H : Hp} : ∀ {d : D} {v : V} {n : Nat}, Look W F H d v → okd d n = true → Dp W.K H v (toPd d) ∧ (toPd d).canLay0 = true ∧ (toPd d).depth ≤ n
  | .non, v, n, h, _ => by
    cases (show v = .non from h)
    exact ⟨.non, by simp [toPd, PyData.canLay0], by simp [toPd, PyData.depth]⟩
  | .bl b, v, n, h, _ => by
    cases (show v = .bl b from h)
    exact ⟨.bl b, by simp [toPd, PyData.canLay0], by simp [toPd, PyData.depth]⟩
  | .int b, v, n, h, _ => by
    cases (show v = .int b from h)
    exact ⟨.int b, by simp [toPd, PyData.canLay0], by simp [toPd, PyData.depth]⟩
  | .str b, v, n, h, o => by
    cases (show v = .str b from h)
    refine ⟨.str b, ?_, by simp [toPd, PyData.depth]⟩
    simp only [toPd, PyData.canLay0]
    exact o
  | .tup ds, v, n, h, o => by
    obtain ⟨a, vs, rfl, t, r⟩ := h
    simp only [okd, Bool.and_eq_true, decide_eq_true_eq] at o
    obtain ⟨h1, h2, h3⟩ := dps_of r o.2
    refine ⟨.tup t.seq h1, by simp [toPd, PyData.canLay0, h2], ?_⟩
    simp only [toPd, PyData.depth]
    omega
  | .lst ds, v, n, h, o => by
    obtain ⟨a, vs, rfl, t, _, r⟩ := h
    simp only [okd, Bool.and_eq_true, decide_eq_true_eq] at o
    obtain ⟨h1, h2, h3⟩ := dps_of r o.2
    refine ⟨.lst (.of t) h1, by simp [toPd, PyData.canLay0, h2], ?_⟩
    simp only [toPd, PyData.depth]
    omega
  | .ob _ _, _, _, _, o => by simp [okd] at o
  | .g _, _, _, _, o => by simp [okd] at o
  | .sc _, _, _, _, o => by simp [okd] at o
  | .cl _, _, _, _, o => by simp [okd] at o
  | .dct _, _, _, _, o => by simp [okd] at o
  | .exc _ _, _, _, _, o => by simp [okd] at o
  | .da _, _, _, _, o => by simp [okd] at o
theorem dps_of {F : Fb} {H : Hp} : ∀ {ds : List D} {vs : List V} {n : Nat}, RepL W F H ds vs → okds ds n = true → DpAll W.K H vs (toPds ds) ∧ PyData.canLayAll0 (toPds ds) = true ∧ PyData.depthAll (toPds ds) ≤ n
  | [], vs, n, h, _ => by
    cases (show vs = [] from h)
    exact ⟨.nil, by simp [toPds, PyData.canLayAll0], by simp [toPds, PyData.depthAll]⟩
  | d :: ds, vs, n, h, o => by
    obtain ⟨v, r, rfl, h1, h2⟩ := h
    simp only [okds, Bool.and_eq_true] at o
    obtain ⟨p1, p2, p3⟩ := dp_of h1.look o.1
    obtain ⟨q1, q2, q3⟩ := dps_of h2 o.2
    refine ⟨.cons p1 q1, by simp [toPds, PyData.canLayAll0, p2, q2], ?_⟩
    simp only [toPds, PyData.depthAll]
    omega
end
theorem shaped_of {d : PyData} (h : d.canLay0 = true) (k : d.depth ≤ 64) : SeqAt.shaped d = true := by
  unfold SeqAt.shaped
  rw [h, decide_eq_true k]; rfl
def eqd (x y : D) : Bool := PyData.eqv (toPd x) (toPd y)
def eqP : D → D → List Cell → Option D := fun x y _ => if okd x 64 = true ∧ okd y 64 = true then some (.bl (eqd x y)) else none
def eqS : D → D → List Cell → Option D := fun x y _ => match x, y with
  | .str i, .str j => some (.bl (i == j))
  | _, _ => none
def neS : D → D → List Cell → Option D := fun x y _ => match x, y with
  | .str i, .str j => some (.bl (!(i == j)))
  | _, _ => none
theorem rf_eqS : RF W eqS rEq := by
  intro F H g x y d v u Q c rx ry e k
  cases x <;> try (cases e; done)
  cases y <;> try (cases e; done)
  cases e
  rename_i i j
  cases (show v = .str i from rx)
  cases (show u = .str j from ry)
  exact ⟨rfl, by rw [dec_str]; exact k H _ (fun _ _ h => h) c (rep_bl _)⟩
theorem rf_neS : RF W neS rNe := by
  intro F H g x y d v u Q c rx ry e k
  cases x <;> try (cases e; done)
  cases y <;> try (cases e; done)
  cases e
  rename_i i j
  cases (show v = .str i from rx)
  cases (show u = .str j from ry)
  exact ⟨rfl, by rw [dec_str]; exact k H _ (fun _ _ h => h) c (rep_bl _)⟩
def neP : D → D → List Cell → Option D := fun x y _ => if okd x 64 = true ∧ okd y 64 = true then some (.bl (!eqd x y)) else none
theorem rf_eqP : RF W eqP (rEqD W.K) := by
  intro F H g x y d v u Q c rx ry e k
  unfold eqP at e
  split at e
  · rename_i hc
    cases e
    obtain ⟨p1, p2, p3⟩ := dp_of rx hc.1
    obtain ⟨q1, q2, q3⟩ := dp_of ry hc.2
    exact ⟨_, _, p1, q1, shaped_of p2 p3, shaped_of q2 q3, k H _ (fun _ _ h => h) c (rep_bl _)⟩
  · cases e
theorem rf_neP : RF W neP (rNeD W.K) := by
  intro F H g x y d v u Q c rx ry e k
  unfold neP at e
  split at e
  · rename_i hc
    cases e
    obtain ⟨p1, p2, p3⟩ := dp_of rx hc.1
    obtain ⟨q1, q2, q3⟩ := dp_of ry hc.2
    exact ⟨_, _, p1, q1, shaped_of p2 p3, shaped_of q2 q3, k H _ (fun _ _ h => h) c (rep_bl _)⟩
  · cases e
theorem non_iff {F : Fb} {H : Hp} {d : D} {v : V} (h : Look W F H d v) : v = .non ↔ d = .non := by
  constructor
  · rintro rfl
    cases d with
    | non => rfl
    | bl b => cases (show V.non = V.bl b from h)
    | int b => cases (show V.non = V.int b from h)
    | str b => cases (show V.non = V.str b from h)
    | tup ds => obtain ⟨_, _, e, _⟩ := h; cases e
    | lst ds => obtain ⟨_, _, e, _⟩ := h; cases e
    | ob c d => obtain ⟨_, _, _, e, _⟩ := h; cases e
    | g n => obtain ⟨_, _, e⟩ := h; cases e
    | sc ns => obtain ⟨_, e, _⟩ := h; cases e
    | cl c => cases (show V.non = V.ref _ from h)
    | dct kvs => obtain ⟨_, e, _⟩ := h; cases e
    | exc c d => obtain ⟨_, _, _, e, _⟩ := h; cases e
    | da ds => obtain ⟨_, _, e, _⟩ := h; cases e
  · rintro rfl
    exact h
theorem rf_isN : RF W isND (fun x y H Q => y = .non ∧ Q (.bl (decide (x = .non))) H) := by
  intro F H g x y d v u Q c rx ry e k
  cases y <;> try (cases x <;> cases e; done)
  refine ⟨(non_iff ry).mpr rfl, ?_⟩
  have hv := non_iff rx
  cases x <;> cases e <;> first
    | (rw [decide_eq_true (hv.mpr rfl)]; exact k H _ (fun _ _ h => h) c (rep_bl _))
    | (rw [decide_eq_false (fun z => nomatch hv.mp z)]; exact k H _ (fun _ _ h => h) c (rep_bl _))
theorem rf_notN : RF W notND (fun x y H Q => y = .non ∧ Q (.bl (!decide (x = .non))) H) := by
  intro F H g x y d v u Q c rx ry e k
  cases y <;> try (cases x <;> cases e; done)
  refine ⟨(non_iff ry).mpr rfl, ?_⟩
  have hv := non_iff rx
  cases x <;> cases e <;> first
    | (rw [decide_eq_true (hv.mpr rfl)]; exact k H _ (fun _ _ h => h) c (rep_bl _))
    | (rw [decide_eq_false (fun z => nomatch hv.mp z)]; exact k H _ (fun _ _ h => h) c (rep_bl _))

/-- a comparison, its operator's rule given -/
structure CmpOk (W : Wd) (X : Cx) (op : CmpOp) (f : D → D → List Cell → Option D) : Prop where
  ex : ∃ r, OpR X (compareOp op) r ∧ RF W f r
  bl : ∀ x y g d, f x y g = some d → ∃ b, d = .bl b
  nin : op ≠ .In ∧ op ≠ .NotIn
theorem bl_I {z : Int → Int → Bool} : ∀ x y g d, onI0 (fun i j => .bl (z i j)) x y g = some d → ∃ b, d = .bl b := fun x y g d h => by
  cases x <;> try (cases h; done)
  cases y <;> try (cases h; done)
  cases h
  exact ⟨_, rfl⟩
theorem c_lt : CmpOk W X .Lt ltD := ⟨⟨_, op_lt, rf_int0 fun _ _ _ _ => rep_bl _⟩, bl_I, by decide⟩
theorem c_le : CmpOk W X .LtE leD := ⟨⟨_, op_le, rf_int0 fun _ _ _ _ => rep_bl _⟩, bl_I, by decide⟩
theorem c_gt : CmpOk W X .Gt gtD := ⟨⟨_, op_gt, rf_int0 fun _ _ _ _ => rep_bl _⟩, bl_I, by decide⟩
theorem c_ge : CmpOk W X .GtE geD := ⟨⟨_, op_ge, rf_int0 fun _ _ _ _ => rep_bl _⟩, bl_I, by decide⟩
theorem c_isN : CmpOk W X .Is isND := ⟨⟨_, op_isN, rf_isN⟩, fun x y g d h => by cases y <;> cases x <;> cases h <;> exact ⟨_, rfl⟩, by decide⟩
theorem c_notN : CmpOk W X .IsNot notND := ⟨⟨_, op_notN, rf_notN⟩, fun x y g d h => by cases y <;> cases x <;> cases h <;> exact ⟨_, rfl⟩, by decide⟩
def eqA : D → D → List Cell → Option D := orF eqS eqP
def neA : D → D → List Cell → Option D := orF neS neP
theorem bl_or {f f' : D → D → List Cell → Option D} (h : ∀ x y g d, f x y g = some d → ∃ b, d = .bl b) (h' : ∀ x y g d, f' x y g = some d → ∃ b, d = .bl b) : ∀ x y g d, orF f f' x y g = some d → ∃ b, d = .bl b := fun x y g d q => by
  unfold orF at q
  cases z : f x y g with
  | some d' => rw [z] at q; cases q; exact h x y g _ z
  | none => rw [z] at q; exact h' x y g d q
theorem c_eqP (hK : X.K = W.K) (hu : X.A.units + 64 < cLine) : CmpOk W X .Eq eqA := ⟨⟨_, op_eq.or (op_eqD hu), rf_eqS.or (by rw [hK]; exact rf_eqP)⟩, bl_or (fun x y g d h => by cases x <;> cases y <;> first | (cases h; done) | (cases h; exact ⟨_, rfl⟩)) (fun x y g d h => by unfold eqP at h; split at h <;> cases h; exact ⟨_, rfl⟩), by decide⟩
theorem c_neP (hK : X.K = W.K) (hu : X.A.units + 64 < cLine) : CmpOk W X .NotEq neA := ⟨⟨_, op_ne.or (op_neD hu), rf_neS.or (by rw [hK]; exact rf_neP)⟩, bl_or (fun x y g d h => by cases x <;> cases y <;> first | (cases h; done) | (cases h; exact ⟨_, rfl⟩)) (fun x y g d h => by unfold neP at h; split at h <;> cases h; exact ⟨_, rfl⟩), by decide⟩
theorem ev_cmp {op : CmpOp} {f : D → D → List Cell → Option D} (h : CmpOk W X op f) (ha : PE X a (tS W E ma)) (hb : PE X b (tS W E mb)) : PE X (.Compare a [op] [b] pos) (tM W E (opM f ma mb)) := by
  obtain ⟨r, ho, rf⟩ := h.ex
  exact weakE (pe_cmpR ho ha hb (nomark _ h.nin.1 h.nin.2)) fun _ _ _ h => r_op rf h
/-- a bool -/
def boolM (m : M D) : M Bool := fun e g => (m e g).bind fun d g1 => match d with
  | .bl b => .ok b g1
  | _ => .bad
theorem r_bool {m : M D} {σ : L2.St} {H : Hp} {Q : Bool → Hp → Prop} (h : L2.TT) (hh : tB W E (boolM m) σ H Q) : tM W E m σ H fun x H1 => ∃ c, x = .bl c ∧ Q c H1 := by
  obtain ⟨F, e, g, S, p⟩ := hh
  refine ⟨F, e, g, S, (Post.bind p).mono fun d g1 F1 H1 x1 c1 p1 v r1 => ?_⟩
  cases d <;> try exact p1.elim
  exact ⟨_, r1, p1 F1 H1 .refl c1⟩
theorem ev_cmpT {op : CmpOp} {f : D → D → List Cell → Option D} (h : CmpOk W X op f) (ha : PE X a (tS W E ma)) (hb : PE X b (tS W E mb)) : PT X (.Compare a [op] [b] pos) (tB W E (boolM (opM f ma mb))) := by
  obtain ⟨r, ho, rf⟩ := h.ex
  exact weakT (pt_cmpR ho ha hb (nomark _ h.nin.1 h.nin.2)) fun σ H Q hh => r_op rf (r_bool (fun _ _ _ => True) hh)
/-- a call, a name .. as a test -/
theorem ev_test {e : Expr} {m : M D} (h : PE X e (tM W E m)) (he : ∀ whole, isTrue e X.env whole = (do let v ← whole; standAt e.pos; holding [v] (truthy v)) := by intro _; rfl) : PT X e (tB W E (boolM m)) :=
  weakT (pt_val h he) fun σ H Q hh => r_bool (fun _ _ _ => True) hh

/-! ### and, or, not, if else -/
def andB (a b : M Bool) : M Bool := fun e g => (a e g).bind fun x g1 => if x = true then b e g1 else .ok false g1
def orB (a b : M Bool) : M Bool := fun e g => (a e g).bind fun x g1 => if x = true then .ok true g1 else b e g1
def notB (a : M Bool) : M Bool := fun e g => (a e g).bind fun x g1 => .ok (!x) g1
variable {na nb : M Bool} {rest : List Expr}
theorem evw_and1 (ha : PT X a (tB W E na)) : PW X (.BoolOp .And [a] pos) (tB W E na) := pw_and1 ha
theorem evw_or1 (ha : PT X a (tB W E na)) : PW X (.BoolOp .Or [a] pos) (tB W E na) := pw_or1 ha
theorem evw_and (ha : PT X a (tB W E na)) (hb : PW X (.BoolOp .And (b :: rest) pos) (tB W E nb)) : PW X (.BoolOp .And (a :: b :: rest) pos) (tB W E (andB na nb)) :=
  weakW (pw_and ha hb) fun σ H Q ⟨F, e, g, S, p⟩ => by
    refine ⟨F, e, g, S, (Post.bind p).mono fun x g1 F1 H1 x1 c1 p1 => ?_⟩
    cases x with
    | true => exact ⟨F1, e, g1, S.step x1 c1, p1⟩
    | false => exact p1 F1 H1 .refl c1
theorem evw_or (ha : PT X a (tB W E na)) (hb : PW X (.BoolOp .Or (b :: rest) pos) (tB W E nb)) : PW X (.BoolOp .Or (a :: b :: rest) pos) (tB W E (orB na nb)) :=
  weakW (pw_or ha hb) fun σ H Q ⟨F, e, g, S, p⟩ => by
    refine ⟨F, e, g, S, (Post.bind p).mono fun x g1 F1 H1 x1 c1 p1 => ?_⟩
    cases x with
    | true => exact p1 F1 H1 .refl c1
    | false => exact ⟨F1, e, g1, S.step x1 c1, p1⟩
theorem evt_not (ha : PT X a (tB W E na)) : PT X (.UnaryOp .Not a pos) (tB W E (notB na)) := weakT (pt_not ha) fun σ H Q ⟨F, e, g, S, p⟩ =>
  ⟨F, e, g, S, (Post.bind p).mono fun x g1 F1 H1 x1 c1 p1 => p1 F1 H1 .refl c1⟩
/-- .. as values -/
def andV (a b : M D) : M D := fun e g => (boolM a e g).bind fun x g1 => if x = true then b e g1 else .ok (.bl false) g1
def orV (a b : M D) : M D := fun e g => (boolM a e g).bind fun x g1 => if x = true then .ok (.bl true) g1 else b e g1
def notV (a : M D) : M D := fun e g => (boolM a e g).bind fun x g1 => .ok (.bl (!x)) g1
theorem r_boolB {m : M D} {f : Bool → List Cell → R D} {F : Fb} {H : Hp} {e : Env} {g : List Cell} {k : D → List Cell → Fb → Hp → Prop} (p : Post W E F H ((boolM m e g).bind f) k) :
    Post W E F H (m e g) fun d g1 F1 H1 => ∃ c, d = .bl c ∧ Post W E F1 H1 (f c g1) k := by
  refine (Post.bind (Post.bind p)).mono fun d g1 F1 H1 x1 c1 p1 => ?_
  cases d <;> try exact p1.elim
  exact ⟨_, rfl, p1 F1 H1 .refl c1⟩
theorem ev_one {op} (h : PE X a (tM W E ma)) : PE X (.BoolOp op [a] pos) (tM W E ma) := pe_one h
theorem ev_and (ha : PE X a (tM W E ma)) (hb : PE X (.BoolOp .And (b :: rest) pos) (tM W E mb)) : PE X (.BoolOp .And (a :: b :: rest) pos) (tM W E (andV ma mb)) :=
  weakE (pe_and ha hb) fun σ H Q ⟨F, e, g, S, p⟩ => by
    refine ⟨F, e, g, S, (r_boolB p).mono fun d g1 F1 H1 x1 c1 p1 v r => ?_⟩
    obtain ⟨c, rfl, p1⟩ := p1
    refine ⟨c, r, ?_⟩
    cases c with
    | true => exact ⟨F1, e, g1, S.step x1 c1, p1⟩
    | false => exact p1 F1 H1 .refl c1 _ (rep_bl _)
theorem ev_or (ha : PE X a (tM W E ma)) (hb : PE X (.BoolOp .Or (b :: rest) pos) (tM W E mb)) : PE X (.BoolOp .Or (a :: b :: rest) pos) (tM W E (orV ma mb)) :=
  weakE (pe_or ha hb) fun σ H Q ⟨F, e, g, S, p⟩ => by
    refine ⟨F, e, g, S, (r_boolB p).mono fun d g1 F1 H1 x1 c1 p1 v r => ?_⟩
    obtain ⟨c, rfl, p1⟩ := p1
    refine ⟨c, r, ?_⟩
    cases c with
    | true => exact p1 F1 H1 .refl c1 _ (rep_bl _)
    | false => exact ⟨F1, e, g1, S.step x1 c1, p1⟩
theorem ev_not (ha : PE X a (tM W E ma)) : PE X (.UnaryOp .Not a pos) (tM W E (notV ma)) :=
  weakE (pe_not ha) fun σ H Q ⟨F, e, g, S, p⟩ => by
    refine ⟨F, e, g, S, (r_boolB p).mono fun d g1 F1 H1 x1 c1 p1 v r => ?_⟩
    obtain ⟨c, rfl, p1⟩ := p1
    exact ⟨c, r, p1 F1 H1 .refl c1 _ (rep_bl _)⟩
def ifV (t : M Bool) (a b : M D) : M D := fun e g => (t e g).bind fun x g1 => if x = true then a e g1 else b e g1
theorem ev_if {c : Expr} (hc : PT X c (tB W E na)) (ha : PE X a (tM W E ma)) (hb : PE X b (tM W E mb)) : PE X (.IfExp c a b pos) (tM W E (ifV na ma mb)) :=
  weakE (pe_ifExp hc ha hb) fun σ H Q ⟨F, e, g, S, p⟩ => by
    refine ⟨F, e, g, S, (Post.bind p).mono fun x g1 F1 H1 x1 c1 p1 => ?_⟩
    cases x with
    | true => exact ⟨F1, e, g1, S.step x1 c1, p1⟩
    | false => exact ⟨F1, e, g1, S.step x1 c1, p1⟩
/-- a < b < c -/
def chM (f f' : D → D → List Cell → Option D) (a b c : M D) : M D := fun e g => (a e g).bind fun x g1 => (b e g1).bind fun y g2 => (R.of (f x y g2) g2).bind fun z g3 => match z with
  | .bl true => (c e g3).bind fun w g4 => R.of (f' y w g4) g4
  | .bl false => .ok (.bl false) g3
  | _ => .bad
variable {c : Expr} {mc : M D}
theorem r_chain {f f' : D → D → List Cell → Option D} {r r' : R2} (rf : RF W f r) (rf' : RF W f' r') {σ : L2.St} {H : Hp} {Q : VK} (h : tM W E (chM f f' ma mb mc) σ H Q) : tChain r r' (tS W E ma) (tS W E mb) (tS W E mc) σ H Q := by
  obtain ⟨F, e, g, S, p⟩ := h
  refine ⟨F, e, g, S, (Post.bind p).mono fun x g1 F1 H1 x1 c1 p1 v r1 => ?_⟩
  refine ⟨F1, e, g1, S.step x1 c1, (Post.bind p1).mono fun y g2 F2 H2 x2 c2 p2 u r2 => ?_⟩
  obtain ⟨d, hd, k⟩ := post_of (Post.bind p2)
  refine rf F2 H2 g2 x y d v u _ c2 (r1.up x2) r2 hd fun H' w kp cc r => ?_
  have p3 := k F2 H' (.all kp) cc
  cases d <;> try exact p3.elim
  rename_i bb
  refine ⟨bb, r, ?_⟩
  cases bb with
  | false => exact p3 F2 H' .refl cc _ (rep_bl _)
  | true =>
    refine ⟨F2, e, g2, (S.step x1 c1).step (x2.trans (.all kp)) cc, (Post.bind p3).mono fun z g4 F4 H4 x4 c4 p4 t r4 => ?_⟩
    obtain ⟨d', hd', k'⟩ := post_of p4
    exact rf' F4 H4 g4 y z d' u t Q c4 ((r2.up (.all kp)).up x4) r4 hd' fun H5 w5 kp5 c5 r5 => k' F4 H5 (.all kp5) c5 w5 r5
end
end Ev

/-! Ev2: argument lists, displays, subscripts, slices, built-in calls. -/
namespace Ev
open PySem PySem.Spec PyProof.Rows L2
section
variable {W : Wd} {E : XK} {X : Cx} {a b c : Expr} {pos : Pos} {ma mb mc : M D} {es : List Expr} {mr : M (List D)} {na nb : M Bool}

theorem ev_chain {op op' : CmpOp} {f f' : D → D → List Cell → Option D} (h : CmpOk W X op f) (h' : CmpOk W X op' f') (ha : PE X a (tS W E ma)) (hb : PE X b (tS W E mb)) (hc : PE X c (tS W E mc))
    (hm : lastMarks [op, op'] [b, c] = false := by with_unfolding_all rfl) : PE X (.Compare a [op, op'] [b, c] pos) (tM W E (chM f f' ma mb mc)) := by
  obtain ⟨r, ho, rf⟩ := h.ex
  obtain ⟨r', ho', rf'⟩ := h'.ex
  exact weakE (pe_chain ho ho' ha hb hc hm) fun _ _ _ h => r_chain rf rf' h
theorem evt_chain {op op' : CmpOp} {f f' : D → D → List Cell → Option D} (h : CmpOk W X op f) (h' : CmpOk W X op' f') (ha : PE X a (tS W E ma)) (hb : PE X b (tS W E mb)) (hc : PE X c (tS W E mc))
    (hm : lastMarks [op, op'] [b, c] = false := by with_unfolding_all rfl) : PT X (.Compare a [op, op'] [b, c] pos) (tB W E (boolM (chM f f' ma mb mc))) := by
  obtain ⟨r, ho, rf⟩ := h.ex
  obtain ⟨r', ho', rf'⟩ := h'.ex
  exact weakT (pt_chain ho ho' ha hb hc hm) fun _ _ _ h => r_chain rf rf' (r_bool (fun _ _ _ => True) h)

/-! ### argument lists -/
def nilM : M (List D) := fun _ g => .ok [] g
def consM (a : M D) (r : M (List D)) : M (List D) := fun e g => (a e g).bind fun x g1 => (r e g1).bind fun xs g2 => .ok (x :: xs) g2
theorem ea_nil : PA X [] (tL W E nilM) := weakA pa_nil fun σ H Q ⟨F, e, g, S, p⟩ => p F H .refl S.cells [] rfl
theorem ea_cons (ha : PE X a (tM W E ma)) (hr : PA X es (tL W E mr)) (hs : starEach (a :: es) X.env = (false, eval a X.env) :: starEach es X.env := by rfl) : PA X (a :: es) (tL W E (consM ma mr)) :=
  weakA (pa_cons ha hr hs) fun σ H Q ⟨F, e, g, S, p⟩ => by
    refine ⟨F, e, g, S, (Post.bind p).mono fun x g1 F1 H1 x1 c1 p1 v r1 => ?_⟩
    refine ⟨F1, e, g1, S.step x1 c1, (Post.bind p1).mono fun y g2 F2 H2 x2 c2 p2 vs r2 => ?_⟩
    exact p2 F2 H2 .refl c2 (v :: vs) ⟨v, vs, rfl, r1.up x2.up, r2⟩
theorem es_nil : PA X [] (tLs W E nilM) := weakA pa_nil fun σ H Q ⟨F, e, g, S, p⟩ => p F H .refl S.cells [] rfl
theorem es_cons (ha : PE X a (tS W E ma)) (hr : PA X es (tLs W E mr)) (hs : starEach (a :: es) X.env = (false, eval a X.env) :: starEach es X.env := by rfl) : PA X (a :: es) (tLs W E (consM ma mr)) :=
  weakA (pa_cons ha hr hs) fun σ H Q ⟨F, e, g, S, p⟩ => by
    refine ⟨F, e, g, S, (Post.bind p).mono fun x g1 F1 H1 x1 c1 p1 v r1 => ?_⟩
    refine ⟨F1, e, g1, S.step x1 c1, (Post.bind p1).mono fun y g2 F2 H2 x2 c2 p2 vs r2 => ?_⟩
    exact p2 F2 H2 .refl c2 (v :: vs) ⟨v, vs, rfl, r1.up x2, r2⟩

/-! ### displays -/
def tupM (m : M (List D)) : M D := fun e g => (m e g).bind fun ds g1 => if ds.length ≤ 16777216 then .ok (.tup ds) g1 else .bad
def fitM (m : M (List D)) : M (List D) := fun e g => (m e g).bind fun ds g1 => if ds.length ≤ 16777216 then .ok ds g1 else .bad
/-- a new list as a value -/
def valM (m : M (List D)) : M D := fun e g => (m e g).bind fun ds g1 => .ok (.lst ds) g1
theorem ev_tup {x1} (h : PA X es (tL W E mr)) : PE X (.Tuple es x1 pos) (tM W E (tupM mr)) := weakE (pe_tup h) fun σ H Q ⟨F, e, g, S, p⟩ => by
  refine ⟨F, e, g, S, (Post.bind p).mono fun ds g1 F1 H1 x1 c1 p1 vs r => ?_⟩
  split at p1
  · rename_i hl
    exact ⟨by rw [sizeLine_eq, ← r.length]; exact hl, fun q nq => p1 F1 _ (Xe.new nq) (c1.new nq) _ (tup_new c1 nq r)⟩
  · exact p1.elim
theorem ev_tupF {x1} (h : PA X es (tL W E mr)) : PE X (.List es x1) (tF W E (fitM mr)) := weakE (pe_lst h) fun σ H Q ⟨F, e, g, S, p⟩ => by
  refine ⟨F, e, g, S, (Post.bind p).mono fun ds g1 F1 H1 x1 c1 p1 vs r => ?_⟩
  split at p1
  · rename_i hl
    refine ⟨by rw [sizeLine_eq, ← r.length]; exact hl, fun q nq => p1 F1 H1 .refl c1 q vs nq r⟩
  · exact p1.elim
/-- a new list, as a value -/
theorem ev_val (h : PE X a (tF W E mr)) : PE X a (tM W E (valM mr)) := weakE h fun σ H Q ⟨F, e, g, S, p⟩ => by
  refine ⟨F, e, g, S, (Post.bind p).mono fun ds g1 F1 H1 x1 c1 p1 q vs nq r => ?_⟩
  exact p1 F1 _ (Xe.new nq) (c1.new nq) _ (lst_new c1 nq r)

/-! ### subscripts -/
def ixD : D → D → List Cell → Option D := fun x y g => match x, y with
  | .tup ds, .int i => atI ds i
  | .lst ds, .int i => atI ds i
  | .sc ns, .int i => (atI ns i).map .int
  | .g n, .int i => match g[n]? with
    | some (.lst ds) => atI ds i
    | _ => none
  | .str z, .int i => if z.length ≤ 16777216 then (atI z.cps.toList i).map fun c => .str ⟨#[c]⟩ else none
  | _, _ => none
theorem RepL.atI {F : Fb} {H : Hp} {ds : List D} {vs : List V} (r : RepL W F H ds vs) {i : Int} {d : D} (h : L2.atI ds i = some d) : ∃ v, L2.atI vs i = some v ∧ Rep W F H d v := by
  unfold L2.atI at h ⊢
  rw [← r.length]
  cases q : ixN ds.length i with
  | none => rw [q] at h; cases h
  | some j =>
    rw [q] at h
    exact r.get h
theorem atI_map {ns : List Int} {i k : Int} (h : atI ns i = some k) : atI (ns.map V.int) i = some (.int k) := by
  unfold atI at h ⊢
  rw [List.length_map]
  cases q : ixN ns.length i with
  | none => rw [q] at h; cases h
  | some j =>
    rw [q] at h
    simp only [Option.bind_some] at h ⊢
    rw [List.getElem?_map, h]; rfl
theorem rf_ix : RF W ixD (rIx W.K) := by
  intro F H g x y d v u Q c rx ry e k
  cases y <;> try (cases x <;> cases e; done)
  rename_i i
  cases x <;> try (cases e; done)
  · rename_i z
    simp only [ixD] at e
    split at e
    · rename_i hl
      cases q : atI z.cps.toList i with
      | none => rw [q] at e; cases e
      | some ch =>
        rw [q] at e
        cases e
        exact .inr (.inr ⟨z, i, ch, rx, ry, by rw [sizeLine_eq]; exact hl, q, k H _ (fun _ _ h => h) c (rep_str _)⟩)
    · cases e
  · rename_i ds
    obtain ⟨p, vs, rfl, t, r⟩ := rx
    obtain ⟨w, h1, h2⟩ := r.atI e
    exact .inr (.inl ⟨p, vs, i, w, rfl, ry, t.seq, h1, k H _ (fun _ _ h => h) c h2⟩)
  · rename_i ds
    obtain ⟨p, vs, rfl, t, _, r⟩ := rx
    obtain ⟨w, h1, h2⟩ := r.atI e
    exact .inl ⟨p, vs, i, w, rfl, ry, .of t, h1, k H _ (fun _ _ h => h) c h2⟩
  · rename_i n
    simp only [ixD] at e
    split at e
    · rename_i ds hg
      obtain ⟨p, hp, rfl⟩ := rx
      obtain ⟨vs, t, r⟩ := c.cel n p _ hp hg
      obtain ⟨w, h1, h2⟩ := r.atI e
      exact .inl ⟨p, vs, i, w, rfl, ry, .of t, h1, k H _ (fun _ _ h => h) c h2⟩
    · cases e
  · rename_i ns
    obtain ⟨p, rfl, t⟩ := rx
    simp only [ixD] at e
    cases q : atI ns i with
    | none => rw [q] at e; cases e
    | some m =>
      rw [q] at e
      cases e
      exact .inl ⟨p, _, i, _, rfl, ry, t.seq, atI_map q, k H _ (fun _ _ h => h) c (rep_int _)⟩
theorem ev_ix (hK : X.K = W.K) (ha : PE X a (tS W E ma)) (hb : PE X b (tS W E mb)) (hs : PlainIx b := by intro _ _; rfl) : PE X (.Subscript a b pos) (tM W E (opM ixD ma mb)) :=
  weakE (pe_ix ix_seq ha hb hs) fun _ _ _ h => r_op (by rw [hK]; exact rf_ix) h

/-! ### slices -/
def noP : M (Option Int) := fun _ g => .ok none g
def atP (m : M D) : M (Option Int) := fun e g => (m e g).bind fun d g1 => match d with
  | .int i => .ok (some i) g1
  | _ => .bad
def tO (W : Wd) (E : XK) (m : M (Option Int)) : TO := fun σ H Q => ∃ F e g, St W F e g σ H ∧ Post W E F H (m e g) fun o _ _ H' => Q o H'
theorem eo_none : PO X none (tO W E noP) := ⟨fun pins s σ H Q I ⟨F, e, g, S, p⟩ => po_none.run pins s σ H Q I (p F H .refl S.cells)⟩
theorem eo_some (ha : PE X a (tS W E ma)) : PO X (some a) (tO W E (atP ma)) := ⟨fun pins s σ H Q I ⟨F, e, g, S, p⟩ => (po_some ha).run pins s σ H Q I (by
  refine ⟨F, e, g, S, (Post.bind p).mono fun d g1 F1 H1 x1 c1 p1 v r => ?_⟩
  cases d <;> try exact p1.elim
  exact ⟨_, r, p1 F1 H1 .refl c1⟩)⟩
def cutL {α : Type} (xs : List α) (lo hi : Option Int) : List α := (xs.drop (HT.sIx xs.length 0 lo)).take (HT.sIx xs.length xs.length hi - HT.sIx xs.length 0 lo)
def cutD (x : D) (lo hi : Option Int) : Option D := match x with
  | .tup ds => some (.tup (cutL ds lo hi))
  | .lst ds => some (.lst (cutL ds lo hi))
  | _ => none
def slM (x : M D) (lo hi : M (Option Int)) : M D := fun e g => (x e g).bind fun d g1 => (lo e g1).bind fun l g2 => (hi e g2).bind fun h g3 => R.of (cutD d l h) g3
theorem RepL.cut {F : Fb} {H : Hp} {ds : List D} {vs : List V} (r : RepL W F H ds vs) (lo hi : Option Int) : RepL W F H (cutL ds lo hi) (cutV vs lo hi) := by
  unfold cutL cutV
  rw [r.length]
  exact (r.drop _).take _
variable {lo hi : Option Expr} {ml mh : M (Option Int)} {p2 : Pos}
theorem ev_slice (hK : X.K = W.K) (ha : PE X a (tS W E ma)) (hl : PO X lo (tO W E ml)) (hh : PO X hi (tO W E mh)) : PE X (.Subscript a (.Slice lo hi none p2) pos) (tM W E (slM ma ml mh)) :=
  weakE (pe_slice (sl_tupA.or sl_list) ha hl hh) fun σ H Q ⟨F, e, g, S, p⟩ => by
    refine ⟨F, e, g, S, (Post.bind p).mono fun d g1 F1 H1 x1 c1 p1 v r => ?_⟩
    refine ⟨F1, e, g1, S.step x1 c1, (Post.bind p1).mono fun l g2 F2 H2 x2 c2 p2 => ?_⟩
    refine ⟨F2, e, g2, (S.step x1 c1).step x2 c2, (Post.bind p2).mono fun h g3 F3 H3 x3 c3 p3 => ?_⟩
    obtain ⟨d', hd, k⟩ := post_of p3
    have r' := (r.up x2).up x3
    cases d <;> try (cases hd; done)
    · rename_i ds
      cases hd
      obtain ⟨q, vs, rfl, t, rr⟩ := r'
      refine .inl ⟨q, vs, rfl, by rw [hK]; exact t.seq, fun hw => ?_, fun _ p np => ?_⟩
      · have e1 : cutL ds l h = ds := by
          unfold cutL
          rw [rr.length, hw.1, hw.2, List.drop_zero, Nat.sub_zero, ← rr.length, List.take_length]
        rw [e1] at k
        exact k F3 H3 .refl c3 _ ⟨q, vs, rfl, t, rr⟩
      · exact k F3 _ (Xe.new np) (c3.new np) _ (tup_new c3 np (rr.cut l h))
    · rename_i ds
      cases hd
      obtain ⟨q, vs, rfl, t, _, rr⟩ := r'
      exact .inr ⟨q, vs, rfl, .of t, fun p np => k F3 _ (Xe.new np) (c3.new np) _ (lst_new c3 np (rr.cut l h))⟩

/-! ### calls of built-ins -/
def bltM (f : List D → List Cell → Option D) (m : M (List D)) : M D := fun e g => (m e g).bind fun ds g1 => R.of (f ds g1) g1
def RFn (W : Wd) (f : List D → List Cell → Option D) (r : List V → Hp → VK → Prop) : Prop := ∀ (F : Fb) (H : Hp) (g : List Cell) (ds : List D) (d : D) (vs : List V) (Q : VK), Cells W F H g → LookL W F H ds vs → f ds g = some d →
  (∀ H' w, (∀ a o, H a = some o → H' a = some o) → Cells W F H' g → Rep W F H' d w → Q w H') → r vs H Q
theorem r_blt {f : List D → List Cell → Option D} {r : List V → Hp → VK → Prop} (rf : RFn W f r) {σ : L2.St} {H : Hp} {Q : VK} (h : tM W E (bltM f mr) σ H Q) : tCB r (tLs W E mr) σ H Q := by
  obtain ⟨F, e, g, S, p⟩ := h
  refine ⟨F, e, g, S, (Post.bind p).mono fun ds g1 F1 H1 x1 c1 p1 vs rr => ?_⟩
  obtain ⟨d, hd, k⟩ := post_of p1
  exact rf F1 H1 g1 ds d vs Q c1 rr hd fun H' w kp c r => k F1 H' (.all kp) c w r
variable {x : Str} {p1 : Pos} {id T : String} {r : List V → Hp → VK → Prop} {f : List D → List Cell → Option D}
/-- a built-in function by its name -/
structure BltOk (W : Wd) (X : Cx) (id : String) (f : List D → List Cell → Option D) : Prop where
  ex : ∃ r, CallR X (.builtin id) r ∧ RFn W f r
structure TyOk (W : Wd) (X : Cx) (T : String) (f : List D → List Cell → Option D) : Prop where
  ex : ∃ r, CallR X (.type T) r ∧ RFn W f r
theorem ev_blt (h : BltOk W X id f) (hg : Gl X x) (hm : X.mg x = none) (hv : bootBuiltins x = some (.builtin id)) (ha : PA X (a :: es) (tLs W E mr)) (hn : x ≠ "__name__" := by decide) (hdb : (x == ("__debug__" : Str)) = false := by decide)
    (he : starEach (a :: es) X.env = (false, eval a X.env) :: starEach es X.env := by rfl) (hpl : (backTo pos (starEach es X.env)).any (·.1) = false := by rfl) : PE X (.Call (.Name x p1) (a :: es) [] pos) (tM W E (bltM f mr)) := by
  obtain ⟨r, hr, rf⟩ := h.ex
  exact weakE (pe_callB hr hg hm hv ha hn hdb he hpl) fun _ _ _ h => r_blt rf h
theorem ev_ty (h : TyOk W X T f) (hg : Gl X x) (hm : X.mg x = none) (hv : bootBuiltins x = some (.type T)) (ha : PA X (a :: es) (tLs W E mr)) (hn : x ≠ "__name__" := by decide) (hdb : (x == ("__debug__" : Str)) = false := by decide)
    (he : starEach (a :: es) X.env = (false, eval a X.env) :: starEach es X.env := by rfl) (hpl : (backTo pos (starEach es X.env)).any (·.1) = false := by rfl) : PE X (.Call (.Name x p1) (a :: es) [] pos) (tM W E (bltM f mr)) := by
  obtain ⟨r, hr, rf⟩ := h.ex
  exact weakE (pe_callTy hr hg hm hv ha hn hdb he hpl) fun _ _ _ h => r_blt rf h
theorem look1 {F : Fb} {H : Hp} {d : D} {vs : List V} (h : LookL W F H [d] vs) : ∃ v, vs = [v] ∧ Look W F H d v := by
  obtain ⟨v, r, rfl, h1, h2⟩ := h
  cases (show r = [] from h2)
  exact ⟨v, rfl, h1⟩
theorem look2 {F : Fb} {H : Hp} {d e : D} {vs : List V} (h : LookL W F H [d, e] vs) : ∃ v u, vs = [v, u] ∧ Look W F H d v ∧ Look W F H e u := by
  obtain ⟨v, r, rfl, h1, h2⟩ := h
  obtain ⟨u, rfl, h3⟩ := look1 h2
  exact ⟨v, u, rfl, h1, h3⟩
def lenF : List D → List Cell → Option D := fun ds g => match ds with
  | [.tup xs] => some (.int xs.length)
  | [.lst xs] => some (.int xs.length)
  | [.sc xs] => some (.int xs.length)
  | [.str z] => if z.length ≤ 16777216 then some (.int z.length) else none
  | [.g n] => match g[n]? with
    | some (.lst xs) => some (.int xs.length)
    | _ => none
  | _ => none
theorem b_len (hK : X.K = W.K) : BltOk W X "len" lenF := by
  refine ⟨_, call_len, ?_⟩
  rw [hK]
  intro F H g ds d vs Q c rr e k
  cases ds with
  | nil => cases e
  | cons y ys =>
    cases ys with
    | cons _ _ => cases y <;> cases e
    | nil =>
      obtain ⟨v, rfl, rv⟩ := look1 rr
      cases y <;> try (cases e; done)
      · rename_i z
        simp only [lenF] at e
        split at e
        · rename_i hl
          cases e
          cases (show v = .str z from rv)
          exact ⟨_, z.length, rfl, ⟨by rw [sizeLine_eq]; exact hl, rfl⟩, k H _ (fun _ _ h => h) c (rep_int _)⟩
        · cases e
      · rename_i xs
        cases e
        obtain ⟨p, us, rfl, t, r⟩ := rv
        exact ⟨_, xs.length, rfl, .inr ⟨us, t.seq, r.length⟩, k H _ (fun _ _ h => h) c (rep_int _)⟩
      · rename_i xs
        cases e
        obtain ⟨p, us, rfl, t, _, r⟩ := rv
        exact ⟨_, xs.length, rfl, .inl ⟨us, .of t, r.length⟩, k H _ (fun _ _ h => h) c (rep_int _)⟩
      · rename_i n
        simp only [lenF] at e
        split at e
        · rename_i xs hg
          cases e
          obtain ⟨p, hp, rfl⟩ := rv
          obtain ⟨us, t, r⟩ := c.cel n p _ hp hg
          exact ⟨_, xs.length, rfl, .inl ⟨us, .of t, r.length⟩, k H _ (fun _ _ h => h) c (rep_int _)⟩
        · cases e
      · rename_i xs
        cases e
        obtain ⟨p, rfl, t⟩ := rv
        exact ⟨_, xs.length, rfl, .inl ⟨_, t.seq, (List.length_map ..).symm⟩, k H _ (fun _ _ h => h) c (rep_int _)⟩
def absF : List D → List Cell → Option D := fun ds _ => match ds with
  | [.int i] => some (.int (if i < 0 then -i else i))
  | _ => none
theorem b_abs : BltOk W X "abs" absF := by
  refine ⟨_, call_abs, ?_⟩
  intro F H g ds d vs Q c rr e k
  cases ds with
  | nil => cases e
  | cons y ys =>
    cases ys with
    | cons _ _ => cases y <;> cases e
    | nil =>
      obtain ⟨v, rfl, rv⟩ := look1 rr
      cases y <;> try (cases e; done)
      cases e
      rename_i i
      cases (show v = .int i from rv)
      exact ⟨i, rfl, k H _ (fun _ _ h => h) c (rep_int _)⟩
def intsOf : List D → Option (List Int)
  | [] => some []
  | .int i :: r => (intsOf r).map (i :: ·)
  | _ => none
theorem intsOf_eq : ∀ {ds : List D} {ns : List Int}, intsOf ds = some ns → ds = ns.map .int
  | [], ns, h => by cases h; rfl
  | d :: ds, ns, h => by
    cases d <;> try (cases h; done)
    rename_i i
    simp only [intsOf] at h
    cases q : intsOf ds with
    | none => rw [q] at h; cases h
    | some ms =>
      rw [q] at h
      cases h
      rw [intsOf_eq q]; rfl
@[simp] theorem intsOf_map (ns : List Int) : intsOf (ns.map .int) = some ns := by
  induction ns with
  | nil => rfl
  | cons n ns ih => simp only [List.map_cons, intsOf, ih, Option.map_some]
def maxI (n : Int) (ns : List Int) : Int := ns.foldl max n
def minI (n : Int) (ns : List Int) : Int := ns.foldl min n
theorem maxI_ge : ∀ (ns : List Int) (n : Int), n ≤ maxI n ns ∧ ∀ y ∈ ns, y ≤ maxI n ns
  | [], n => ⟨Int.le_refl _, fun _ h => by cases h⟩
  | m :: ns, n => by
    obtain ⟨h1, h2⟩ := maxI_ge ns (max n m)
    refine ⟨?_, fun y hy => ?_⟩
    · show n ≤ maxI (max n m) ns
      omega
    · show y ≤ maxI (max n m) ns
      rcases List.mem_cons.mp hy with rfl | hy
      · omega
      · exact h2 y hy
theorem maxI_mem : ∀ (ns : List Int) (n : Int), maxI n ns = n ∨ maxI n ns ∈ ns
  | [], n => .inl rfl
  | m :: ns, n => by
    show maxI (max n m) ns = n ∨ maxI (max n m) ns ∈ m :: ns
    rcases maxI_mem ns (max n m) with h | h
    · rw [h]
      by_cases q : n ≤ m
      · right
        rw [show max n m = m by omega]
        exact List.mem_cons_self
      · left; omega
    · exact .inr (List.mem_cons_of_mem _ h)
theorem minI_le : ∀ (ns : List Int) (n : Int), minI n ns ≤ n ∧ ∀ y ∈ ns, minI n ns ≤ y
  | [], n => ⟨Int.le_refl _, fun _ h => by cases h⟩
  | m :: ns, n => by
    obtain ⟨h1, h2⟩ := minI_le ns (min n m)
    refine ⟨?_, fun y hy => ?_⟩
    · show minI (min n m) ns ≤ n
      omega
    · show minI (min n m) ns ≤ y
      rcases List.mem_cons.mp hy with rfl | hy
      · omega
      · exact h2 y hy
theorem minI_mem : ∀ (ns : List Int) (n : Int), minI n ns = n ∨ minI n ns ∈ ns
  | [], n => .inl rfl
  | m :: ns, n => by
    show minI (min n m) ns = n ∨ minI (min n m) ns ∈ m :: ns
    rcases minI_mem ns (min n m) with h | h
    · rw [h]
      by_cases q : m ≤ n
      · right
        rw [show min n m = m by omega]
        exact List.mem_cons_self
      · left; omega
    · exact .inr (List.mem_cons_of_mem _ h)
def maxF : List D → List Cell → Option D := fun ds _ => match ds with
  | [.int i, .int j] => some (.int (max i j))
  | [.lst xs] => match intsOf xs with
    | some (n :: ns) => some (.int (maxI n ns))
    | _ => none
  | _ => none
def minF : List D → List Cell → Option D := fun ds _ => match ds with
  | [.int i, .int j] => some (.int (min i j))
  | [.lst xs] => match intsOf xs with
    | some (n :: ns) => some (.int (minI n ns))
    | _ => none
  | _ => none
theorem max_if (i j : Int) : (if j > i then j else i) = max i j := by
  split <;> omega
theorem min_if (i j : Int) : (if j < i then j else i) = min i j := by
  split <;> omega
theorem b_max (hK : X.K = W.K) (hc : X.calm = true) : BltOk W X "max" maxF := by
  refine ⟨_, (call_max2 hc).or (cr_max hc), ?_⟩
  rw [hK]
  intro F H g ds d vs Q c rr e k
  cases ds with
  | nil => cases e
  | cons y ys =>
    cases ys with
    | nil =>
      obtain ⟨v, rfl, rv⟩ := look1 rr
      cases y <;> try (cases e; done)
      rename_i xs
      simp only [maxF] at e
      split at e
      · rename_i n ns hn
        cases e
        have hx := intsOf_eq hn
        obtain ⟨p, us, rfl, t, _, r⟩ := rv
        rw [hx] at r
        rw [r.ints] at t
        refine .inr ⟨p, n :: ns, rfl, .of t, Nat.succ_pos _, fun m hm hl => ?_⟩
        have : m = maxI n ns := by
          obtain ⟨h1, h2⟩ := maxI_ge ns n
          have h3 : maxI n ns ≤ m := by
            rcases maxI_mem ns n with h | h
            · rw [h]; exact hl n List.mem_cons_self
            · exact hl _ (List.mem_cons_of_mem _ h)
          rcases List.mem_cons.mp hm with rfl | hm
          · omega
          · have := h2 m hm; omega
        rw [this]
        exact k H _ (fun _ _ h => h) c (rep_int _)
      · cases e
    | cons z zs =>
      cases zs with
      | cons _ _ => cases y <;> cases z <;> cases e
      | nil =>
        obtain ⟨v, u, rfl, rv, ru⟩ := look2 rr
        cases y <;> try (cases e; done)
        cases z <;> try (cases e; done)
        cases e
        rename_i i j
        cases (show v = .int i from rv)
        cases (show u = .int j from ru)
        exact .inl ⟨i, j, rfl, k H _ (fun _ _ h => h) c (by rw [max_if]; exact rep_int _)⟩
theorem b_min (hK : X.K = W.K) (hc : X.calm = true) : BltOk W X "min" minF := by
  refine ⟨_, (call_min2 hc).or (cr_min hc), ?_⟩
  rw [hK]
  intro F H g ds d vs Q c rr e k
  cases ds with
  | nil => cases e
  | cons y ys =>
    cases ys with
    | nil =>
      obtain ⟨v, rfl, rv⟩ := look1 rr
      cases y <;> try (cases e; done)
      rename_i xs
      simp only [minF] at e
      split at e
      · rename_i n ns hn
        cases e
        have hx := intsOf_eq hn
        obtain ⟨p, us, rfl, t, _, r⟩ := rv
        rw [hx] at r
        rw [r.ints] at t
        refine .inr ⟨p, n :: ns, rfl, .of t, Nat.succ_pos _, fun m hm hl => ?_⟩
        have : m = minI n ns := by
          obtain ⟨h1, h2⟩ := minI_le ns n
          have h3 : m ≤ minI n ns := by
            rcases minI_mem ns n with h | h
            · rw [h]; exact hl n List.mem_cons_self
            · exact hl _ (List.mem_cons_of_mem _ h)
          rcases List.mem_cons.mp hm with rfl | hm
          · omega
          · have := h2 m hm; omega
        rw [this]
        exact k H _ (fun _ _ h => h) c (rep_int _)
      · cases e
    | cons z zs =>
      cases zs with
      | cons _ _ => cases y <;> cases z <;> cases e
      | nil =>
        obtain ⟨v, u, rfl, rv, ru⟩ := look2 rr
        cases y <;> try (cases e; done)
        cases z <;> try (cases e; done)
        cases e
        rename_i i j
        cases (show v = .int i from rv)
        cases (show u = .int j from ru)
        exact .inl ⟨i, j, rfl, k H _ (fun _ _ h => h) c (by rw [min_if]; exact rep_int _)⟩
def blsOf : List D → Option (List Bool)
  | [] => some []
  | .bl i :: r => (blsOf r).map (i :: ·)
  | _ => none
theorem blsOf_eq : ∀ {ds : List D} {ns : List Bool}, blsOf ds = some ns → ds = ns.map .bl
  | [], ns, h => by cases h; rfl
  | d :: ds, ns, h => by
    cases d <;> try (cases h; done)
    simp only [blsOf] at h
    cases q : blsOf ds with
    | none => rw [q] at h; cases h
    | some ms =>
      rw [q] at h
      cases h
      rw [blsOf_eq q]; rfl
@[simp] theorem blsOf_map (ns : List Bool) : blsOf (ns.map .bl) = some ns := by
  induction ns with
  | nil => rfl
  | cons n ns ih => simp only [List.map_cons, blsOf, ih, Option.map_some]
def allF : List D → List Cell → Option D := fun ds _ => match ds with
  | [.lst xs] => (blsOf xs).map fun bs => .bl (bs.all fun z => z)
  | _ => none
def anyF : List D → List Cell → Option D := fun ds _ => match ds with
  | [.lst xs] => (blsOf xs).map fun bs => .bl (bs.any fun z => z)
  | _ => none
def sumF : List D → List Cell → Option D := fun ds _ => match ds with
  | [.lst xs] => (intsOf xs).map fun bs => .int bs.sum
  | _ => none
theorem b_all (hK : X.K = W.K) (hc : X.calm = true) : BltOk W X "all" allF := by
  refine ⟨_, cr_all hc, ?_⟩
  rw [hK]
  intro F H g ds d vs Q c rr e k
  cases ds with
  | nil => cases e
  | cons y ys =>
    cases ys with
    | cons _ _ => cases y <;> cases e
    | nil =>
      obtain ⟨v, rfl, rv⟩ := look1 rr
      cases y <;> try (cases e; done)
      rename_i xs
      simp only [allF] at e
      cases q : blsOf xs with
      | none => rw [q] at e; cases e
      | some bs =>
        rw [q] at e
        cases e
        obtain ⟨p, us, rfl, t, _, r⟩ := rv
        rw [blsOf_eq q] at r
        rw [r.bls] at t
        exact ⟨p, bs, rfl, .of t, k H _ (fun _ _ h => h) c (rep_bl _)⟩
def tupF : List D → List Cell → Option D := fun ds _ => match ds with
  | [.lst xs] => some (.tup xs)
  | [.tup xs] => some (.tup xs)
  | _ => none
theorem b_tuple (hK : X.K = W.K) : TyOk W X "tuple" tupF := by
  refine ⟨_, call_tuple_of, ?_⟩
  rw [hK]
  intro F H g ds d vs Q c rr e k
  cases ds with
  | nil => cases e
  | cons y ys =>
    cases ys with
    | cons _ _ => cases y <;> cases e
    | nil =>
      obtain ⟨v, rfl, rv⟩ := look1 rr
      cases y <;> try (cases e; done)
      · cases e
        obtain ⟨p, us, rfl, t, r⟩ := rv
        exact ⟨p, us, rfl, .inr ⟨t.seq, k H _ (fun _ _ h => h) c ⟨p, us, rfl, t, r⟩⟩⟩
      · cases e
        obtain ⟨p, us, rfl, t, _, r⟩ := rv
        exact ⟨p, us, rfl, .inl ⟨.of t, fun l nl => k _ _ (keep_new nl) (c.new nl) (tup_new c nl r)⟩⟩
/-- list(x), a new one -/
def lstM (m : M (List D)) : M (List D) := fun e g => (m e g).bind fun ds g1 => match ds with
  | [.lst xs] => .ok xs g1
  | [.tup xs] => .ok xs g1
  | _ => .bad
/-- i.bit_length() -/
def bitsD : D → List Cell → Option D := fun x _ => match x with
  | .int i => some (.int (Builtin.Int.intBits i : Nat))
  | _ => none
theorem ev_bits {ap : Pos} (ha : PE X a (tS W E ma)) (hb : attributeBase a "bit_length" X.env (eval a X.env) = eval a X.env := by rfl) (hl : (ap.endLine == pos.line) = true := by rfl) : PE X (.Call (.Attribute a "bit_length" ap) [] [] pos) (tM W E (unM bitsD ma)) :=
  weakE (pe_bits ha hb hl) fun σ H Q ⟨F, e, g, S, p⟩ => by
    refine ⟨F, e, g, S, (Post.bind p).mono fun x g1 F1 H1 x1 c1 p1 v r1 => ?_⟩
    obtain ⟨d, hd, k⟩ := post_of p1
    cases x <;> try (cases hd; done)
    cases hd
    exact ⟨_, r1, k F1 H1 .refl c1 _ (rep_int _)⟩
end
end Ev

/-! Ev3: statements, targets, loops, comprehensions. -/
namespace Ev
open PySem PySem.Spec PyProof.Rows L2

/-! ### what is wanted behind a statement -/
def Fb.base (F : Fb) : Fb := ⟨F.nu, [], F.th⟩
theorem base_has {F : Fb} {a : Addr} (h : F.base.has a) : F.has a := by
  rcases h with h | h | h
  · exact .inl h
  · cases h
  · exact .inr (.inr h)
theorem Up.base {F : Fb} {H : Hp} : Up F F.base H H := ⟨fun a o e n => ⟨e, fun z => n (base_has z)⟩, [], by simp [Fb.base]⟩
/-- the same forbidden addresses, or fewer -/
theorem Cells.less {W : Wd} {F F' : Fb} {H : Hp} {g : List Cell} (c : Cells W F H g) (h : ∀ a, F'.has a → F.has a) (ht : F'.th = F.th) (dj : ∀ a ∈ F'.th, a ∉ F'.nu ∧ a ∉ F'.om) (dj2 : ∀ a ∈ F'.om, a ∉ F'.nu) : Cells W F' H g := by
  have u : Up F F' H H := ⟨fun a o e n => ⟨e, fun z => n (h a z)⟩, [], by simp [ht]⟩
  refine ⟨by rw [ht]; exact c.nd, by rw [ht]; exact c.len, fun n a x h1 h2 => (c.cel n a x (by rw [← ht]; exact h1) h2).up u rfl, fun a q => c.tr a (h a q), dj, dj2⟩
theorem Cells.base {W : Wd} {F : Fb} {H : Hp} {g : List Cell} (c : Cells W F H g) : Cells W F.base H g :=
  c.less (fun _ => base_has) rfl (fun a h => ⟨(c.dj a h).1, by simp [Fb.base]⟩) fun a h => by cases h
def SPost (W : Wd) (E : XK) (F : Fb) (H : Hp) (r : RS) (D : Ends) : Prop := match r with
  | .nx e g => ∀ F' σ' H', Xs F F' H H' → St W F' e g σ' H' → D.nx σ' H'
  | .bk e g => ∀ F' σ' H', Xs F F' H H' → St W F' e g σ' H' → D.bk σ' H'
  | .ct e g => ∀ F' σ' H', Xs F F' H H' → St W F' e g σ' H' → D.ct σ' H'
  | .rt d g => ∀ F' H' v, Xs F F' H H' → Cells W F'.base H' g → Rep W F'.base H' d v → D.rt v H'
  | .ex c d g => ∀ F' H' dx v, Xs F F' H H' → Cells W F'.base H' g → Rep W F'.base H' d v → Xd F'.base H' dx v → E (.ref (W.ec c)) (some dx) H'
  | .bad => False
section
variable {W : Wd} {E : XK} {F F' : Fb} {H H' : Hp} {α : Type}
theorem SPost.on {r : RS} {D : Ends} (p : SPost W E F H r D) (x : Xs F F' H H') : SPost W E F' H' r D := by
  cases r with
  | nx e g => exact fun F2 σ2 H2 y s => p F2 σ2 H2 (x.trans y) s
  | bk e g => exact fun F2 σ2 H2 y s => p F2 σ2 H2 (x.trans y) s
  | ct e g => exact fun F2 σ2 H2 y s => p F2 σ2 H2 (x.trans y) s
  | rt d g => exact fun F2 H2 v y c => p F2 H2 v (x.trans y) c
  | ex c d g => exact fun F2 H2 dx v y => p F2 H2 dx v (x.trans y)
  | bad => exact p
theorem SPost.toS {r : R α} {f : α → List Cell → RS} {D : Ends} (p : SPost W E F H (r.toS f) D) : Post W E F H r fun a g F1 H1 => SPost W E F1 H1 (f a g) D := by
  cases r with
  | ok a g => exact fun F1 H1 x c => SPost.on (r := f a g) p x.xs
  | ex c d g => exact fun F1 H1 dx v x c' r hd => p F1 H1 dx v x.xs c'.base (r.up Up.base) (hd.up Up.base)
  | bad => exact p
theorem SPost.to {r : RS} {D D' : Ends} (p : SPost W E F H r D) (hn : ∀ σ H, D.nx σ H → D'.nx σ H) (hb : ∀ σ H, D.bk σ H → D'.bk σ H) (hc : ∀ σ H, D.ct σ H → D'.ct σ H) (hr : ∀ v H, D.rt v H → D'.rt v H) : SPost W E F H r D' := by
  cases r with
  | nx e g => exact fun F2 σ2 H2 y s => hn _ _ (p F2 σ2 H2 y s)
  | bk e g => exact fun F2 σ2 H2 y s => hb _ _ (p F2 σ2 H2 y s)
  | ct e g => exact fun F2 σ2 H2 y s => hc _ _ (p F2 σ2 H2 y s)
  | rt d g => exact fun F2 H2 v y c r => hr _ _ (p F2 H2 v y c r)
  | ex c d g => exact p
  | bad => exact p
end
def tMS (W : Wd) (E : XK) (m : MS) : TS := fun D σ H => ∃ F e g, St W F e g σ H ∧ SPost W E F H (m e g) D
section
variable {W : Wd} {E : XK} {X : Cx} {a b c : Expr} {pos : Pos} {ma mb mc : M D} {es : List Expr} {mr : M (List D)} {na nb : M Bool} {s1 s2 : MS} {st : Stmt} {rest : List Stmt}

/-! ### blocks, if, return -/
def skipS : MS := fun e g => .nx e g
def seqS (a b : MS) : MS := fun e g => match a e g with
  | .nx e1 g1 => b e1 g1
  | r => r
theorem et_nil : PSs X [] (tMS W E skipS) := weakB pss_nil fun D σ H ⟨F, e, g, S, p⟩ => p F σ H .refl S
theorem et_one (h : PS X st (tMS W E s1)) : PSs X [st] (tMS W E s1) := pss_one h
theorem et_cons (h : PS X st (tMS W E s1)) (k : PSs X rest (tMS W E s2)) : PSs X (st :: rest) (tMS W E (seqS s1 s2)) := weakB (pss_cons h k) fun D σ H ⟨F, e, g, S, p⟩ => by
  refine ⟨F, e, g, S, ?_⟩
  unfold seqS at p
  cases q : s1 e g with
  | nx e1 g1 =>
    rw [q] at p
    exact fun F' σ' H' x s => ⟨F', e1, g1, s, p.on x⟩
  | bk e1 g1 => rw [q] at p; exact p
  | ct e1 g1 => rw [q] at p; exact p
  | rt d g1 => rw [q] at p; exact p
  | ex c d g1 => rw [q] at p; exact p
  | bad => rw [q] at p; exact p
def breakS : MS := fun e g => .bk e g
def contS : MS := fun e g => .ct e g
def retS (m : M D) : MS := fun e g => (m e g).toS fun d g1 => .rt d g1
theorem es_ret (h : PE X a (tM W E ma)) : PS X (.Return (some a) pos) (tMS W E (retS ma)) := weakS (ps_ret h) fun D σ H ⟨F, e, g, S, p⟩ =>
  ⟨F, e, g, S, p.toS.mono fun d g1 F1 H1 x c k v r => k F1 H1 v .refl c.base (r.up Up.base)⟩
def retOwn (i : Nat) : MS := fun e g => match e[i]? with
  | some (.own ds) => .rt (.lst ds) g
  | some (.v d) => .rt d g
  | _ => .bad
def retN : MS := fun _ g => .rt .non g
def ifS (t : M Bool) (a b : MS) : MS := fun e g => (t e g).toS fun x g1 => if x = true then a e g1 else b e g1
variable {ba bb : List Stmt}
theorem es_if (hc : PT X c (tB W E na)) (ha : PSs X ba (tMS W E s1)) (hb : PSs X bb (tMS W E s2)) : PS X (.If c ba bb pos) (tMS W E (ifS na s1 s2)) := weakS (ps_if hc ha hb) fun D σ H ⟨F, e, g, S, p⟩ => by
  refine ⟨F, e, g, S, p.toS.mono fun x g1 F1 H1 x1 c1 p1 => ?_⟩
  cases x with
  | true => exact ⟨F1, e, g1, S.step x1 c1, p1⟩
  | false => exact ⟨F1, e, g1, S.step x1 c1, p1⟩
def exprS (m : M D) : MS := fun e g => (m e g).toS fun _ g1 => .nx e g1
/-! ### targets -/
theorem set_get {α : Type} {l : List α} {i j : Nat} {x y : α} (h : (l.set i x)[j]? = some y) : (i = j ∧ y = x) ∨ (i ≠ j ∧ l[j]? = some y) := by
  by_cases e : i = j
  · subst e
    rw [List.getElem?_set] at h
    simp only [if_pos] at h
    split at h
    · cases h; exact .inl ⟨rfl, rfl⟩
    · cases h
  · rw [List.getElem?_set_ne e] at h
    exact .inr ⟨e, h⟩
/-- a name holds a value -/
theorem St.put {F : Fb} {e : Env} {g : List Cell} {σ : L2.St} {H : Hp} (S : St W F e g σ H) {d : D} {v : V} (r : Rep W F H d v) (i : Nat) : St W F (e.set i (.v d)) g (σ.set i (some v)) H := by
  refine ⟨S.cells, by simpa using S.len, fun j d' h => ?_, fun j ds h => ?_, fun j l ds es a n h1 h2 h3 => ?_⟩
  · rcases set_get h with ⟨rfl, q⟩ | ⟨n, q⟩
    · cases q
      have hi : i < σ.length := by
        have := (List.getElem?_eq_some_iff.mp h).1
        rw [List.length_set] at this
        rw [← S.len]; exact this
      exact ⟨v, List.getElem?_set_self hi, r⟩
    · rw [List.getElem?_set_ne n]
      exact S.slots j d' q
  · rcases set_get h with ⟨rfl, q⟩ | ⟨n, q⟩
    · cases q
    · rw [List.getElem?_set_ne n]
      exact S.owns j ds q
  · rcases set_get h1 with ⟨rfl, q⟩ | ⟨n1, q1⟩
    · cases q
    · rcases set_get h2 with ⟨rfl, q⟩ | ⟨n2, q2⟩
      · cases q
      · rw [List.getElem?_set_ne n1] at h3
        rw [List.getElem?_set_ne n2]
        exact S.apart j l ds es a n q1 q2 h3
/-- a list that no one else has is laid -/
theorem Up.own {F : Fb} {H : Hp} {p : Addr} {o : HO} (np : H p = none) : Up F { F with om := p :: F.om } H (upd H p o) := by
  refine ⟨fun a u e n => ⟨keep_new np a u e, fun z => ?_⟩, [], by simp⟩
  rcases z with z | z | z
  · exact n (.inl z)
  · rcases List.mem_cons.mp z with z | z
    · rw [z, np] at e; cases e
    · exact n (.inr (.inl z))
  · exact n (.inr (.inr z))
theorem Cells.own {F : Fb} {H : Hp} {g : List Cell} (c : Cells W F H g) {p : Addr} {o : HO} (np : H p = Option.none) : Cells W { F with om := p :: F.om } (upd H p o) g := by
  have nh : ¬ F.has p := c.none np
  refine ⟨c.nd, c.len, fun n a x h1 h2 => (c.cel n a x h1 h2).up (Up.own np) ?_, fun a z => ?_, fun a h => ⟨(c.dj a h).1, fun z => ?_⟩, fun a h z => ?_⟩
  · exact upd_ne (fun z => nh (.inr (.inr (z ▸ List.mem_of_getElem? h1))))
  · by_cases q : a = p
    · exact ⟨o, by rw [q]; exact upd_same⟩
    · rcases z with z | z | z
      · obtain ⟨u, e⟩ := c.tr a (.inl z)
        exact ⟨u, by rw [upd_ne q]; exact e⟩
      · rcases List.mem_cons.mp z with z | z
        · exact absurd z q
        · obtain ⟨u, e⟩ := c.tr a (.inr (.inl z))
          exact ⟨u, by rw [upd_ne q]; exact e⟩
      · obtain ⟨u, e⟩ := c.tr a (.inr (.inr z))
        exact ⟨u, by rw [upd_ne q]; exact e⟩
  · rcases List.mem_cons.mp z with z | z
    · exact nh (.inr (.inr (z ▸ h)))
    · exact (c.dj a h).2 z
  · rcases List.mem_cons.mp h with h | h
    · exact nh (.inl (h ▸ z))
    · exact c.dj2 a h z
theorem Xs.own {F : Fb} {H : Hp} {p : Addr} {o : HO} (np : H p = none) : Xs F { F with om := p :: F.om } H (upd H p o) := by
  refine ⟨fun a u e _ _ => keep_new np a u e, fun a u e => ⟨u, keep_new np a u e⟩, ⟨[], by simp, by simp⟩, rfl, fun a z => ?_⟩
  rcases List.mem_cons.mp z with z | z
  · right; rw [z]; exact np
  · exact .inl z
/-- a name holds a new list of its own -/
theorem St.putO {F : Fb} {e : Env} {g : List Cell} {σ : L2.St} {H : Hp} (S : St W F e g σ H) {ds : List D} {vs : List V} {p : Addr} (np : H p = none) (r : RepL W F H ds vs) (i : Nat) :
    St W { F with om := p :: F.om } (e.set i (.own ds)) g (σ.set i (some (.ref p))) (upd H p (.lst vs)) := by
  have nh : ¬ F.has p := S.cells.none np
  have nop : ∀ (j : Nat) (ds : List D), e[j]? = some (Slot.own ds) → σ[j]? ≠ some (some (V.ref p)) := fun j ds h q => by
    obtain ⟨a, vs', h1, h2, _⟩ := S.owns j ds h
    rw [q] at h1
    cases h1
    exact nh (.inr (.inl h2))
  refine ⟨S.cells.own np, by simpa using S.len, fun j d' h => ?_, fun j es h => ?_, fun j l es fs a n h1 h2 h3 => ?_⟩
  · rcases set_get h with ⟨rfl, q⟩ | ⟨n, q⟩
    · cases q
    · rw [List.getElem?_set_ne n]
      obtain ⟨v, h1, h2⟩ := S.slots j d' q
      exact ⟨v, h1, h2.up (Up.own np)⟩
  · rcases set_get h with ⟨rfl, q⟩ | ⟨n, q⟩
    · cases q
      have hi : i < σ.length := by
        have := (List.getElem?_eq_some_iff.mp h).1
        rw [List.length_set] at this
        rw [← S.len]; exact this
      exact ⟨p, vs, List.getElem?_set_self hi, List.mem_cons_self, upd_same, r.up (Up.own np)⟩
    · rw [List.getElem?_set_ne n]
      obtain ⟨a, ws, h1, h2, h3, h4⟩ := S.owns j es q
      exact ⟨a, ws, h1, List.mem_cons_of_mem _ h2, keep_new np _ _ h3, h4.up (Up.own np)⟩
  · rcases set_get h1 with ⟨rfl, q1⟩ | ⟨n1, q1⟩
    · cases q1
      have hi : i < σ.length := by
        have := (List.getElem?_eq_some_iff.mp h1).1
        rw [List.length_set] at this
        rw [← S.len]; exact this
      rw [List.getElem?_set_self hi] at h3
      cases h3
      rcases set_get h2 with ⟨e2, q2⟩ | ⟨n2, q2⟩
      · exact absurd e2 n
      · rw [List.getElem?_set_ne n2]
        exact nop l fs q2
    · rw [List.getElem?_set_ne n1] at h3
      rcases set_get h2 with ⟨rfl, q2⟩ | ⟨n2, q2⟩
      · intro z
        have hi : i < σ.length := by
          have := (List.getElem?_eq_some_iff.mp h2).1
          rw [List.length_set] at this
          rw [← S.len]; exact this
        rw [List.getElem?_set_self hi] at z
        cases z
        exact nop j es q1 h3
      · rw [List.getElem?_set_ne n2]
        exact S.apart j l es fs a n q1 q2 h3

/-- targets: what a value does to the names; the slots that are stored -/
def tG (W : Wd) (f : D → Env → Option Env) (vs : List Nat) : TG := fun v σ H Q => ∃ F e g d e', St W F e g σ H ∧ Rep W F H d v ∧ f d e = some e' ∧ ∀ σ', St W F e' g σ' H → (∀ ws, (∀ i ∈ vs, i ∈ ws) → wipe σ' ws = wipe σ ws) → Q σ' H
def tGs (W : Wd) (f : List D → Env → Option Env) (vs : List Nat) : TGs := fun us σ H Q => ∃ F e g ds e', St W F e g σ H ∧ RepL W F H ds us ∧ f ds e = some e' ∧ ∀ σ', St W F e' g σ' H → (∀ ws, (∀ i ∈ vs, i ∈ ws) → wipe σ' ws = wipe σ ws) → Q σ' H
theorem wipe_set {i : Nat} {x : Option V} : ∀ {ws : List Nat} {σ : L2.St}, i ∈ ws → wipe (σ.set i x) ws = wipe σ ws := by
  intro ws
  induction ws with
  | nil => intro σ h; cases h
  | cons w ws ih =>
    intro σ h
    show (wipe (σ.set i x) ws).set w none = (wipe σ ws).set w none
    by_cases hi : i ∈ ws
    · rw [ih hi]
    · have hw : i = w := by
        rcases List.mem_cons.mp h with h | h
        · exact h
        · exact absurd h hi
      subst hw
      -- the store goes out through the wipes
      have key : ∀ (ws : List Nat) (σ : L2.St), wipe (σ.set i x) ws = (wipe σ ws).set i x ∨ i ∈ ws := by
        intro ws
        induction ws with
        | nil => intro σ; exact .inl rfl
        | cons w ws ih2 =>
          intro σ
          by_cases q : i = w
          · exact .inr (by rw [q]; exact List.mem_cons_self)
          · rcases ih2 σ with h | h
            · left
              show (wipe (σ.set i x) ws).set w none = ((wipe σ ws).set w none).set i x
              rw [h, List.set_comm _ _ q]
            · exact .inr (List.mem_cons_of_mem _ h)
      rcases key ws σ with k | k
      · rw [k, List.set_set]
      · exact absurd k hi
def tgN (i : Nat) : D → Env → Option Env := fun d e => some (e.set i (.v d))
theorem eg_name (i : Nat) {x : Str} (hN : X.N.Nodup) (hi : X.N[i]? = some x := by rfl) (hx : Loc X.env.scope x := by first | exact Or.inl rfl | exact Or.inr rfl) (hf : X.fn x = true ∨ X.env.scope.names.lookup x = some .local := by first | exact .inl rfl | exact .inr rfl | assumption) :
    PG X (.Name x pos) (tG W (tgN i) [i]) := ⟨fun pins s σ H v u Q I r ⟨F, e, g, d, e', S, rd, he, k⟩ => (pg_name hN hi hx hf).run pins s σ H v u Q I r (by
  cases he
  exact k _ (S.put rd i) fun ws h => wipe_set (h i (by simp)))⟩
def tgs0 : List D → Env → Option Env := fun ds e => match ds with
  | [] => some e
  | _ => none
def tgs1 (f : D → Env → Option Env) (fs : List D → Env → Option Env) : List D → Env → Option Env := fun ds e => match ds with
  | d :: r => match f d e with
    | some e1 => fs r e1
    | none => none
  | [] => none
theorem egs_nil : PGs X [] (tGs W tgs0 []) := ⟨fun pins s σ H vs us Q I r ⟨F, e, g, ds, e', S, rd, he, k⟩ => pgs_nil.run pins s σ H vs us Q I r (by
  cases ds with
  | cons _ _ => cases he
  | nil =>
    cases he
    cases (show vs = [] from rd)
    exact ⟨rfl, k σ S fun _ _ => rfl⟩)⟩
variable {f : D → Env → Option Env} {fs : List D → Env → Option Env} {v1 v2 : List Nat}
theorem egs_cons (h1 : PG X a (tG W f v1)) (h2 : PGs X es (tGs W fs v2)) (hs : (assignEach (a :: es) X.env).map (·.2) = assign a X.env :: (assignEach es X.env).map (·.2) := by rfl) : PGs X (a :: es) (tGs W (tgs1 f fs) (v1 ++ v2)) :=
  ⟨fun pins s σ H vs us Q I r ⟨F, e, g, ds, e', S, rd, he, k⟩ => (pgs_cons h1 h2 hs).run pins s σ H vs us Q I r (by
    cases ds with
    | nil => cases he
    | cons d ds =>
      obtain ⟨v, vr, rfl, rv, rr⟩ := rd
      simp only [tgs1] at he
      cases q : f d e with
      | none => rw [q] at he; cases he
      | some e1 =>
        rw [q] at he
        refine ⟨v, vr, rfl, F, e, g, d, e1, S, rv, q, fun σ1 S1 w1 => ?_⟩
        exact ⟨F, e1, g, ds, e', S1, rr, he, fun σ2 S2 w2 => k σ2 S2 fun ws hw => (w2 ws fun i hi => hw i (List.mem_append_right _ hi)).trans (w1 ws fun i hi => hw i (List.mem_append_left _ hi))⟩)⟩
def tgT (n : Nat) (fs : List D → Env → Option Env) : D → Env → Option Env := fun d e => match d with
  | .tup ds => if ds.length = n then fs ds e else none
  | _ => none
theorem eg_tup {n kk : Nat} (hK : X.K = W.K) (hc : X.calm = true) (h : PGs X es (tGs W fs v1)) (hn : (assignEach es X.env).length = n := by rfl) (hst : (assignEach es X.env).findIdx? (·.1) = none := by rfl) :
    PG X (.Tuple es kk pos) (tG W (tgT n fs) v1) := ⟨fun pins s σ H v u Q I r ⟨F, e, g, d, e', S, rd, he, k⟩ => (pg_tup hc h hn hst).run pins s σ H v u Q I r (by
  cases d <;> try (cases he; done)
  simp only [tgT] at he
  split at he
  · rename_i ds hl
    obtain ⟨q, us', rfl, t, rr⟩ := rd
    exact ⟨q, us', rfl, by rw [hK]; exact t.seq, by rw [← rr.length]; exact hl, F, e, g, ds, e', S, rr, he, k⟩
  · cases he)⟩

/-! ### assignments -/
def asgS (m : M D) (f : D → Env → Option Env) : MS := fun e g => (m e g).toS fun d g1 => match f d e with
  | some e1 => .nx e1 g1
  | none => .bad
theorem r_asg {te : TE} {g0 : TG} {D0 : Ends} {σ : L2.St} {H : Hp} (h : tMS W E (asgS ma f) D0 σ H) : tAsg (tM W E ma) (tG W f v1) D0 σ H := by
  obtain ⟨F, e, g, S, p⟩ := h
  refine ⟨F, e, g, S, p.toS.mono fun d g1 F1 H1 x c k v r => ?_⟩
  cases q : f d e with
  | none => rw [q] at k; exact k.elim
  | some e1 =>
    rw [q] at k
    exact ⟨F1, e, g1, d, e1, S.step x c, r, q, fun σ' S' _ => k F1 σ' H1 .refl S'⟩
theorem es_set {i : Nat} {x : Str} {p1 : Pos} (hN : X.N.Nodup) (ha : PE X a (tM W E ma)) (hi : X.N[i]? = some x := by rfl) (hx : Loc X.env.scope x := by first | exact Or.inl rfl | exact Or.inr rfl) (hs : swapsWith a (some (.Name x p1)) pos.line X.env = pure false := by rfl)
    (hf : X.fn x = true ∨ X.env.scope.names.lookup x = some .local := by first | exact .inl rfl | exact .inr rfl | assumption) : PS X (.Assign [.Name x p1] a pos) (tMS W E (asgS ma (tgN i))) :=
  weakS (ps_set hN hi hx ha hs hf) fun D σ H ⟨F, e, g, S, p⟩ => ⟨F, e, g, S, p.toS.mono fun d g1 F1 H1 x c k v r => k F1 _ H1 .refl ((S.step x c).put r i)⟩
theorem es_asg {tg : Expr} (ha : PE X a (tM W E ma)) (hg : PG X tg (tG W f v1)) (hs : swapsWithSole [tg] a pos.line X.env = pure false := by rfl) (hw : swappedStores [tg] a X.env = pure none := by rfl)
    (h1 : (assignEach [tg] X.env).map (·.2) = [assign tg X.env] := by rfl) : PS X (.Assign [tg] a pos) (tMS W E (asgS ma f)) := weakS (ps_asg ha hg hs hw h1) fun D σ H h => r_asg (te := fun _ _ _ => True) (g0 := fun _ _ _ _ => True) h
/-- a name, a new list of its own -/
def ownS (m : M (List D)) (i : Nat) : MS := fun e g => (m e g).toS fun ds g1 => .nx (e.set i (.own ds)) g1
theorem es_own {i : Nat} {x : Str} {p1 : Pos} (hN : X.N.Nodup) (ha : PE X a (tF W E mr)) (hi : X.N[i]? = some x := by rfl) (hx : Loc X.env.scope x := by first | exact Or.inl rfl | exact Or.inr rfl) (hs : swapsWith a (some (.Name x p1)) pos.line X.env = pure false := by rfl)
    (hf : X.fn x = true ∨ X.env.scope.names.lookup x = some .local := by first | exact .inl rfl | exact .inr rfl | assumption) : PS X (.Assign [.Name x p1] a pos) (tMS W E (ownS mr i)) :=
  weakS (ps_set hN hi hx ha hs hf) fun D σ H ⟨F, e, g, S, p⟩ => ⟨F, e, g, S, p.toS.mono fun ds g1 F1 H1 x c k q vs nq r => k _ _ _ (Xs.own nq) ((S.step x c).putO nq r i)⟩
/-- the own list of a name is left to all -/
def frzE (i : Nat) (e : Env) : Env := match e[i]? with
  | some (.own ds) => e.set i (.v (.lst ds))
  | _ => e
theorem St.frz {F : Fb} {e : Env} {g : List Cell} {σ : L2.St} {H : Hp} (S : St W F e g σ H) (i : Nat) : ∃ F', Xs F F' H H ∧ St W F' (frzE i e) g σ H := by
  unfold frzE
  cases q : e[i]? with
  | none => exact ⟨F, .refl, S⟩
  | some sl =>
    cases sl with
    | no => exact ⟨F, .refl, S⟩
    | v d => exact ⟨F, .refl, S⟩
    | own ds =>
      obtain ⟨a, vs, h1, h2, h3, h4⟩ := S.owns i ds q
      have hsub : ∀ b, ({ F with om := F.om.filter (· ≠ a) } : Fb).has b → F.has b ∧ b ≠ a := fun b z => by
        rcases z with z | z | z
        · exact ⟨.inl z, fun w => S.cells.dj2 a h2 (w ▸ z)⟩
        · rw [List.mem_filter] at z
          exact ⟨.inr (.inl z.1), by simpa using z.2⟩
        · exact ⟨.inr (.inr z), fun w => (S.cells.dj a (w ▸ z)).2 h2⟩
      have up : Up F { F with om := F.om.filter (· ≠ a) } H H := ⟨fun b o e n => ⟨e, fun z => n (hsub b z).1⟩, [], by simp⟩
      have c : Cells W { F with om := F.om.filter (· ≠ a) } H g := S.cells.less (fun b z => (hsub b z).1) rfl (fun b z => ⟨(S.cells.dj b z).1, fun w => (S.cells.dj b z).2 (List.mem_filter.mp w).1⟩) fun b z => S.cells.dj2 b (List.mem_filter.mp z).1
      refine ⟨{ F with om := F.om.filter (· ≠ a) }, ⟨fun _ _ e _ _ => e, fun _ o e => ⟨o, e⟩, ⟨[], by simp, by simp⟩, rfl, fun b z => .inl (List.mem_filter.mp z).1⟩, ?_⟩
      refine ⟨c, by simpa using S.len, fun j d' h => ?_, fun j es h => ?_, fun j l es fs b n k1 k2 k3 => ?_⟩
      · rcases set_get h with ⟨rfl, q'⟩ | ⟨n, q'⟩
        · cases q'
          exact ⟨.ref a, h1, a, vs, rfl, h3, fun z => (hsub a z).2 rfl, h4.up up⟩
        · obtain ⟨v, k1, k2⟩ := S.slots j d' q'
          exact ⟨v, k1, k2.up up⟩
      · rcases set_get h with ⟨rfl, q'⟩ | ⟨n, q'⟩
        · cases q'
        · obtain ⟨b, ws, k1, k2, k3, k4⟩ := S.owns j es q'
          refine ⟨b, ws, k1, List.mem_filter.mpr ⟨k2, ?_⟩, k3, k4.up up⟩
          have : b ≠ a := fun w => S.apart i j ds es a n q q' h1 (w ▸ k1)
          simpa using this
      · rcases set_get k1 with ⟨_, q1⟩ | ⟨n1, q1⟩
        · cases q1
        · rcases set_get k2 with ⟨_, q2⟩ | ⟨n2, q2⟩
          · cases q2
          · exact S.apart j l es fs b n q1 q2 k3
/-- ahead of a statement own lists are left to all -/
def frzS (i : Nat) (m : MS) : MS := fun e g => m (frzE i e) g
theorem es_frz (i : Nat) (h : PS X st (tMS W E s1)) : PS X st (tMS W E (frzS i s1)) := weakS h fun D σ H ⟨F, e, g, S, p⟩ => by
  obtain ⟨F', x, S'⟩ := S.frz i
  exact ⟨F', _, g, S', p.on x⟩
end
end Ev

/-! Ev4: stores to lists and cells, two targets at once, loops, comprehensions. -/
namespace Ev
open PySem PySem.Spec PyProof.Rows L2 RZ
section
variable {W : Wd} {E : XK} {X : Cx} {a b c : Expr} {pos : Pos} {ma mb mc : M D} {es : List Expr} {mr mq : M (List D)} {na nb : M Bool} {s1 s2 : MS} {st : Stmt} {rest : List Stmt}

/-! ### lists of this frame are written -/
theorem slot_lt {F : Fb} {e : Env} {g : List Cell} {σ : L2.St} {H : Hp} (S : St W F e g σ H) {i : Nat} {s : Slot} (h : e[i]? = some s) : i < σ.length := by
  rw [← S.len]; exact (List.getElem?_eq_some_iff.mp h).1
theorem Up.wr {F : Fb} {H : Hp} {p : Addr} {o : HO} (h : F.has p) : Up F F H (upd H p o) := ⟨fun a u e n => ⟨by rw [upd_ne (fun z : a = p => n (by rw [z]; exact h))]; exact e, n⟩, [], by simp⟩
theorem St.wr {F : Fb} {e : Env} {g : List Cell} {σ : L2.St} {H : Hp} (S : St W F e g σ H) {i : Nat} {ds ds' : List D} {vs' : List V} {p : Addr} (h : e[i]? = some (.own ds)) (hp : σ[i]? = some (some (.ref p))) (r : RepL W F H ds' vs') :
    Xs F F H (upd H p (.lst vs')) ∧ St W F (e.set i (.own ds')) g σ (upd H p (.lst vs')) := by
  obtain ⟨q, vs, h1, h2, h3, h4⟩ := S.owns i ds h
  have hq : q = p := by rw [hp] at h1; cases h1; rfl
  subst hq
  have up : Up F F H (upd H q (.lst vs')) := Up.wr (.inr (.inl h2))
  have tr' : ∀ a u, H a = some u → ∃ u', upd H q (.lst vs') a = some u' := fun a u e => by
    by_cases z : a = q
    · exact ⟨_, by rw [z]; exact upd_same⟩
    · exact ⟨u, by rw [upd_ne z]; exact e⟩
  refine ⟨⟨fun a u e n1 n2 => by rw [upd_ne (fun z : a = q => n2 (by rw [z]; exact h2))]; exact e, tr', ⟨[], by simp, by simp⟩, rfl, fun _ z => .inl z⟩, ⟨S.cells.nd, S.cells.len, fun n a x k1 k2 => (S.cells.cel n a x k1 k2).up up ?_, fun a z => ?_, S.cells.dj, S.cells.dj2⟩, by simpa using S.len, fun j d' k => ?_, fun j fs k => ?_, fun j l fs hs b n k1 k2 k3 => ?_⟩
  · exact upd_ne fun z => (S.cells.dj a (List.mem_of_getElem? k1)).2 (z ▸ h2)
  · obtain ⟨u, e⟩ := S.cells.tr a z
    exact tr' a u e
  · rcases set_get k with ⟨rfl, z⟩ | ⟨n, z⟩
    · cases z
    · obtain ⟨v, k1, k2⟩ := S.slots j d' z
      exact ⟨v, k1, k2.up up⟩
  · rcases set_get k with ⟨rfl, z⟩ | ⟨n, z⟩
    · cases z
      exact ⟨q, vs', hp, h2, upd_same, r.up up⟩
    · obtain ⟨b, ws, k1, k2, k3, k4⟩ := S.owns j fs z
      have nb : b ≠ q := fun w => S.apart i j ds fs q n h z hp (by rw [k1, w])
      exact ⟨b, ws, k1, k2, by rw [upd_ne nb]; exact k3, k4.up up⟩
  · rcases set_get k1 with ⟨rfl, z1⟩ | ⟨n1, z1⟩
    · rcases set_get k2 with ⟨e2, z2⟩ | ⟨n2, z2⟩
      · exact absurd e2 n
      · exact S.apart _ l ds hs b n h z2 k3
    · rcases set_get k2 with ⟨rfl, z2⟩ | ⟨n2, z2⟩
      · exact S.apart j _ fs ds b n z1 h k3
      · exact S.apart j l fs hs b n z1 z2 k3
/-- a cell is written -/
theorem St.wrC {F : Fb} {e : Env} {g : List Cell} {σ : L2.St} {H : Hp} (S : St W F e g σ H) {n : Nat} {ds' : List D} {vs' : List V} {p : Addr} (hp : F.th[n]? = some p) (hl : ∃ vs, H p = some (.lst vs)) (r : RepL W F H ds' vs') :
    Xe F F H (upd H p (.lst vs')) ∧ St W F e (g.set n (.lst ds')) σ (upd H p (.lst vs')) := by
  have hm : p ∈ F.th := List.mem_of_getElem? hp
  have up : Up F F H (upd H p (.lst vs')) := Up.wr (.inr (.inr hm))
  have tr' : ∀ a u, H a = some u → ∃ u', upd H p (.lst vs') a = some u' := fun a u e => by
    by_cases z : a = p
    · exact ⟨_, by rw [z]; exact upd_same⟩
    · exact ⟨u, by rw [upd_ne z]; exact e⟩
  have x : Xe F F H (upd H p (.lst vs')) := ⟨fun a u e n => by rw [upd_ne (fun z : a = p => n (by rw [z]; exact hm))]; exact e, tr', ⟨[], by simp, by simp⟩, rfl, rfl⟩
  refine ⟨x, S.step x ⟨S.cells.nd, by simpa using S.cells.len, fun m a y k1 k2 => ?_, fun a z => ?_, S.cells.dj, S.cells.dj2⟩⟩
  · rcases set_get k2 with ⟨rfl, z⟩ | ⟨q, z⟩
    · cases z
      rw [hp] at k1
      cases k1
      exact ⟨vs', upd_same, r.up up⟩
    · refine (S.cells.cel m a y k1 z).up up (upd_ne fun w => ?_)
      have i1 := (List.getElem?_eq_some_iff.mp k1)
      have i2 := (List.getElem?_eq_some_iff.mp hp)
      obtain ⟨l1, e1⟩ := i1
      obtain ⟨l2, e2⟩ := i2
      exact q ((List.getElem_inj S.cells.nd).mp (e2.trans (w.symm.trans e1.symm)))
  · obtain ⟨u, e⟩ := S.cells.tr a z
    exact tr' a u e
theorem ty_list {K : PySem.W.Frag} {H : Hp} {p : Addr} {vs : List V} (h : H p = some (.lst vs)) : tyV K "list" (.ref p) H := Or.inl ⟨rfl, _, Or.inl (Or.inl h)⟩
def appendS (i : Nat) (m : M D) : MS := fun e g => match e[i]? with
  | some (.own ds) => (m e g).toS fun d g1 => if ds.length < 16777216 then .nx (e.set i (.own (ds ++ [d]))) g1 else .bad
  | _ => .bad
variable {x y : Str} {p1 p2 p3 p4 : Pos}
theorem es_append {i : Nat} (h0 : PE X a (tBM X.K "list" rAppend (tVar i) (tCons (tM W E ma) tNil))) (hs : swapsWith a none pos.line X.env = pure false := by rfl) : PS X (.Expr a pos) (tMS W E (appendS i ma)) := weakS (ps_expr h0 hs) fun D0 σ H ⟨F, e, g, S, p⟩ => by
  unfold appendS at p
  cases q : e[i]? with
  | none => rw [q] at p; exact p.elim
  | some sl =>
    rw [q] at p
    cases sl with
    | no => exact p.elim
    | v d => exact p.elim
    | own ds =>
      obtain ⟨l, vs, h1, h2, h3, h4⟩ := S.owns i ds q
      refine ⟨_, h1, ty_list h3, F, e, g, S, p.toS.mono fun d g1 F1 H1 x1 c1 k v r => ?_⟩
      have S1 := S.step x1 c1
      obtain ⟨l', vs', k1, k2, k3, k4⟩ := S1.owns i ds q
      have e1 : l' = l := by rw [h1] at k1; cases k1; rfl
      subst e1
      split at k
      · rename_i hl
        refine ⟨l', vs', v, rfl, rfl, k3, by rw [sizeLine_eq, ← k4.length]; exact hl, ?_⟩
        obtain ⟨xs, S2⟩ := S1.wr q h1 (k4.append (RepL.one r))
        exact k F1 σ _ xs S2
      · exact k.elim
theorem RepL.dropLast {F : Fb} {H : Hp} {ds : List D} {vs : List V} (r : RepL W F H ds vs) : RepL W F H ds.dropLast vs.dropLast := by
  rw [List.dropLast_eq_take, List.dropLast_eq_take, r.length]
  exact r.take _
def popS (i : Nat) : MS := fun e g => match e[i]? with
  | some (.own ds) => match ds[ds.length - 1]? with
    | some _ => .nx (e.set i (.own ds.dropLast)) g
    | none => .bad
  | _ => .bad
/-- y = x.pop() -/
def popA (i j : Nat) : MS := fun e g => match e[i]? with
  | some (.own ds) => match ds[ds.length - 1]? with
    | some d => .nx ((e.set i (.own ds.dropLast)).set j (.v d)) g
    | none => .bad
  | _ => .bad
/-- x.extend(y) -/
def extS (i : Nat) (m : M D) : MS := fun e g => match e[i]? with
  | some (.own ds) => (m e g).toS fun d g1 => match d with
    | .lst zs => if ds.length + zs.length ≤ 16777216 then .nx (e.set i (.own (ds ++ zs))) g1 else .bad
    | _ => .bad
  | _ => .bad
/-- x[k] = e -/
def setS (i : Nat) (mi m : M D) : MS := fun e g => match e[i]? with
  | some (.own ds) => (m e g).toS fun d g1 => (mi e g1).toS fun k g2 => match k with
    | .int k => match ixN ds.length k with
      | some j => .nx (e.set i (.own (ds.set j d))) g2
      | none => .bad
    | _ => .bad
  | some (.v (.g n)) => (m e g).toS fun d g1 => (mi e g1).toS fun k g2 => match k with
    | .int k => match g2[n]? with
      | some (.lst ds) => match ixN ds.length k with
        | some j => .nx e (g2.set n (.lst (ds.set j d)))
        | none => .bad
      | _ => .bad
    | _ => .bad
  | _ => .bad
theorem es_setI (i : Nat) (hi : PE X b (tM W E mb)) (ha : PE X a (tM W E ma)) (hN : X.N[i]? = some x := by rfl) (hv : Vis X.env.scope x := by first | exact Or.inl rfl | exact Or.inr (Or.inl rfl) | exact Or.inr (Or.inr rfl)) (hd : (x == ("__debug__" : Str)) = false := by decide) (hcd : (x == ("__classdict__" : Str)) = false := by decide)
    (hsub : ∀ v, assign (.Subscript (.Name x p1) b p2) X.env v = (do
      let ov ← holding [v] (eval (.Name x p1) X.env)
      let iv ← holding [v, ov] (eval b X.env)
      standAt p2
      holding [v, ov, iv] (setItem ov iv v)
      release [v, ov, iv] []) := by intro _; rfl)
    (hs : swapsWithSole [.Subscript (.Name x p1) b p2] a pos.line X.env = pure false := by rfl) (hw : swappedStores [.Subscript (.Name x p1) b p2] a X.env = pure none := by rfl)
    (h1 : (assignEach [.Subscript (.Name x p1) b p2] X.env).map (·.2) = [assign (.Subscript (.Name x p1) b p2) X.env] := by rfl) : PS X (.Assign [.Subscript (.Name x p1) b p2] a pos) (tMS W E (setS i mb ma)) :=
  weakS (ps_asg ha (pg_sub (pe_var hN hv hd hcd) hi set_list hsub) hs hw h1) fun D0 σ H ⟨F, e, g, S, p⟩ => by
    unfold setS at p
    cases q : e[i]? with
    | none => rw [q] at p; exact p.elim
    | some sl =>
      rw [q] at p
      cases sl with
      | no => exact p.elim
      | own ds =>
        obtain ⟨l, vs, h1, h2, h3, h4⟩ := S.owns i ds q
        refine ⟨F, e, g, S, p.toS.mono fun d g1 F1 H1 x1 c1 k1 v r => ?_⟩
        have S1 := S.step x1 c1
        refine ⟨_, h1, F1, e, g1, S1, k1.toS.mono fun kd g2 F2 H2 x2 c2 k2 u ru => ?_⟩
        have S2 := S1.step x2 c2
        obtain ⟨l', vs', z1, z2, z3, z4⟩ := S2.owns i ds q
        have e1 : l' = l := by rw [h1] at z1; cases z1; rfl
        subst e1
        cases kd <;> try exact k2.elim
        rename_i kk
        cases q2 : ixN ds.length kk with
        | none => simp only [q2] at k2; exact k2.elim
        | some j =>
          simp only [q2] at k2
          refine ⟨l', vs', kk, j, rfl, ru, z3, by rw [← z4.length]; exact q2, ?_⟩
          obtain ⟨xs, S3⟩ := S2.wr q h1 (z4.set j (r.up x2.up))
          exact k2 F2 σ _ xs S3
      | v d0 =>
        cases d0 <;> try exact p.elim
        rename_i n
        obtain ⟨w, h1, l, h2, rfl⟩ := S.slots i _ q
        refine ⟨F, e, g, S, p.toS.mono fun d g1 F1 H1 x1 c1 k1 v r => ?_⟩
        have S1 := S.step x1 c1
        refine ⟨_, h1, F1, e, g1, S1, k1.toS.mono fun kd g2 F2 H2 x2 c2 k2 u ru => ?_⟩
        have S2 := S1.step x2 c2
        obtain ⟨w', z1, l', z2, rfl⟩ := S2.slots i _ q
        have e1 : l' = l := by rw [h1] at z1; cases z1; rfl
        subst e1
        cases kd <;> try exact k2.elim
        rename_i kk
        cases q3 : g2[n]? with
        | none => simp only [q3] at k2; exact k2.elim
        | some cc =>
          cases cc with
          | ob _ _ => simp only [q3] at k2; exact k2.elim
          | dct _ => simp only [q3] at k2; exact k2.elim
          | tbl _ => simp only [q3] at k2; exact k2.elim
          | lst ds =>
            simp only [q3] at k2
            obtain ⟨vs, z3, z4⟩ := c2.cel n l' _ z2 q3
            cases q2 : ixN ds.length kk with
            | none => simp only [q2] at k2; exact k2.elim
            | some j =>
              simp only [q2] at k2
              refine ⟨l', vs, kk, j, rfl, ru, z3, by rw [← z4.length]; exact q2, ?_⟩
              obtain ⟨xe, S3⟩ := S2.wrC z2 ⟨vs, z3⟩ (z4.set j (r.up x2.up))
              exact k2 F2 σ _ xe.xs S3

/-! ### name op= e -/
def augS (f : D → D → List Cell → Option D) (i : Nat) (m : M D) : MS := fun e g => match e[i]? with
  | some (.v d0) => (m e g).toS fun d g1 => match f d0 d g1 with
    | some z => .nx (e.set i (.v z)) g1
    | none => .bad
  | _ => .bad
theorem es_aug {i : Nat} {op : Operator} {r : R2} {f : D → D → List Cell → Option D} (hN : X.N.Nodup) (ho : OpR X (inplaceOp op) r) (rf : RF W f r) (ha : PE X a (tS W E ma)) (hi : X.N[i]? = some x := by rfl) (hx : Loc X.env.scope x := by first | exact Or.inl rfl | exact Or.inr rfl)
    (hf : X.fn x = true ∨ X.env.scope.names.lookup x = some .local := by first | exact .inl rfl | exact .inr rfl | assumption) : PS X (.AugAssign (.Name x p1) op a pos) (tMS W E (augS f i ma)) := weakS (ps_aug hN hi hx ha ho hf) fun D0 σ H ⟨F, e, g, S, p⟩ => by
  unfold augS at p
  cases q : e[i]? with
  | none => rw [q] at p; exact p.elim
  | some sl =>
    rw [q] at p
    cases sl with
    | no => exact p.elim
    | own ds => exact p.elim
    | v d0 =>
      obtain ⟨w, h1, h2⟩ := S.slots i _ q
      refine ⟨w, h1, F, e, g, S, p.toS.mono fun d g1 F1 H1 x1 c1 k1 v r => ?_⟩
      cases q2 : f d0 d g1 with
      | none => rw [q2] at k1; exact k1.elim
      | some z =>
        rw [q2] at k1
        refine rf F1 H1 g1 d0 d z w v _ c1 (h2.look.up x1) r q2 fun H' u kp cc rz => ?_
        exact k1 F1 _ H' (Xe.all kp).xs (((S.step x1 c1).step (.all kp) cc).put rz i)
theorem es_iadd {i : Nat} (hN : X.N.Nodup) (ha : PE X a (tS W E ma)) (hi : X.N[i]? = some x := by rfl) (hx : Loc X.env.scope x := by first | exact Or.inl rfl | exact Or.inr rfl)
    (hf : X.fn x = true ∨ X.env.scope.names.lookup x = some .local := by first | exact .inl rfl | exact .inr rfl | assumption) : PS X (.AugAssign (.Name x p1) .Add a pos) (tMS W E (augS (onI0 fun i j => .int (i + j)) i ma)) := es_aug hN iop_add (rf_int0 fun _ _ _ _ => rep_int _) ha hi hx hf

theorem es_isub {i : Nat} (hN : X.N.Nodup) (ha : PE X a (tS W E ma)) (hi : X.N[i]? = some x := by rfl) (hx : Loc X.env.scope x := by first | exact Or.inl rfl | exact Or.inr rfl)
    (hf : X.fn x = true ∨ X.env.scope.names.lookup x = some .local := by first | exact .inl rfl | exact .inr rfl | assumption) : PS X (.AugAssign (.Name x p1) .Sub a pos) (tMS W E (augS subD i ma)) := es_aug hN iop_sub (rf_int0 fun _ _ _ _ => rep_int _) ha hi hx hf
/-! ### a, b = e1, e2 -/
theorem St.lay {F : Fb} {e : Env} {g : List Cell} {σ : L2.St} {H : Hp} (S : St W F e g σ H) {p : Addr} {o : HO} (np : H p = none) : St W { F with om := p :: F.om } e g σ (upd H p o) := by
  refine ⟨S.cells.own np, S.len, fun j d h => ?_, fun j ds h => ?_, S.apart⟩
  · obtain ⟨v, h1, h2⟩ := S.slots j d h
    exact ⟨v, h1, h2.up (Up.own np)⟩
  · obtain ⟨a, vs, h1, h2, h3, h4⟩ := S.owns j ds h
    exact ⟨a, vs, h1, List.mem_cons_of_mem _ h2, keep_new np _ _ h3, h4.up (Up.own np)⟩
theorem St.adopt {F : Fb} {e : Env} {g : List Cell} {σ : L2.St} {H : Hp} (S : St W F e g σ H) {ds : List D} {vs : List V} {p : Addr} (hp : p ∈ F.om) (hl : H p = some (.lst vs)) (r : RepL W F H ds vs)
    (nop : ∀ (j : Nat) (fs : List D), e[j]? = some (Slot.own fs) → σ[j]? ≠ some (some (V.ref p))) (i : Nat) : St W F (e.set i (.own ds)) g (σ.set i (some (.ref p))) H := by
  refine ⟨S.cells, by simpa using S.len, fun j d' h => ?_, fun j fs h => ?_, fun j l fs hs a n h1 h2 h3 => ?_⟩
  · rcases set_get h with ⟨rfl, q⟩ | ⟨n, q⟩
    · cases q
    · rw [List.getElem?_set_ne n]
      exact S.slots j d' q
  · rcases set_get h with ⟨rfl, q⟩ | ⟨n, q⟩
    · cases q
      have hi := slot_lt (e := e.set i (.own ds)) (σ := σ.set i (some (.ref p))) (F := F) (W := W) (g := g) (H := H) (i := i) (s := .own ds)
      have hi' : i < σ.length := by
        have := (List.getElem?_eq_some_iff.mp h).1
        rw [List.length_set] at this
        rw [← S.len]; exact this
      exact ⟨p, vs, List.getElem?_set_self hi', hp, hl, r⟩
    · rw [List.getElem?_set_ne n]
      exact S.owns j fs q
  · rcases set_get h1 with ⟨rfl, q1⟩ | ⟨n1, q1⟩
    · cases q1
      have hi' : i < σ.length := by
        have := (List.getElem?_eq_some_iff.mp h1).1
        rw [List.length_set] at this
        rw [← S.len]; exact this
      rw [List.getElem?_set_self hi'] at h3
      cases h3
      rcases set_get h2 with ⟨e2, q2⟩ | ⟨n2, q2⟩
      · exact absurd e2 n
      · rw [List.getElem?_set_ne n2]
        exact nop l hs q2
    · rw [List.getElem?_set_ne n1] at h3
      rcases set_get h2 with ⟨rfl, q2⟩ | ⟨n2, q2⟩
      · intro z
        have hi' : i < σ.length := by
          have := (List.getElem?_eq_some_iff.mp h2).1
          rw [List.length_set] at this
          rw [← S.len]; exact this
        rw [List.getElem?_set_self hi'] at z
        cases z
        exact nop j fs q1 h3
      · rw [List.getElem?_set_ne n2]
        exact S.apart j l fs hs a n q1 q2 h3
def parS (i j : Nat) (m1 m2 : M D) : MS := fun e g => (m1 e g).toS fun x g1 => (m2 e g1).toS fun y g2 => .nx ((e.set i (.v x)).set j (.v y)) g2
def parFS (i j : Nat) (m1 : M (List D)) (m2 : M D) : MS := fun e g => (m1 e g).toS fun x g1 => (m2 e g1).toS fun y g2 => .nx ((e.set i (.own x)).set j (.v y)) g2
def parSF (i j : Nat) (m1 : M D) (m2 : M (List D)) : MS := fun e g => (m1 e g).toS fun x g1 => (m2 e g1).toS fun y g2 => .nx ((e.set i (.v x)).set j (.own y)) g2
variable {pt pt2 : Pos} {kt k2 : Nat}
theorem es_par {i j : Nat} (hc : X.calm = true) (hN : X.N.Nodup) (h1 : PE X a (tM W E ma)) (h2 : PE X b (tM W E mb)) (hi : X.N[i]? = some x := by rfl) (hj : X.N[j]? = some y := by rfl) (hij : i ≠ j := by decide)
    (hx : X.env.scope.names.lookup x = some .local := by rfl) (hy : X.env.scope.names.lookup y = some .local := by rfl) (hs1 : starEach [a, b] X.env = (false, eval a X.env) :: starEach [b] X.env := by rfl) (hs2 : starEach [b] X.env = (false, eval b X.env) :: starEach [] X.env := by rfl)
    (hw : swappedStores [.Tuple [.Name x p1, .Name y p2] kt pt] (.Tuple [a, b] k2 pt2) X.env = pure (some [x, y]) := by rfl)
    (hs : swapsWithSole [.Tuple [.Name x p1, .Name y p2] kt pt] (.Tuple [a, b] k2 pt2) pos.line X.env = pure false := by rfl) :
    PS X (.Assign [.Tuple [.Name x p1, .Name y p2] kt pt] (.Tuple [a, b] k2 pt2) pos) (tMS W E (parS i j ma mb)) := weakS (ps_par hc hN hi hj hij hx hy (pa_cons h1 (pa_cons h2 pa_nil hs2) hs1) hw hs) fun D0 σ H ⟨F, e, g, S, p⟩ => by
  refine ⟨F, e, g, S, p.toS.mono fun d g1 F1 H1 x1 c1 k1 v r => ?_⟩
  refine ⟨F1, e, g1, S.step x1 c1, k1.toS.mono fun d2 g2 F2 H2 x2 c2 k2 u r2 => ?_⟩
  exact ⟨v, u, rfl, k2 F2 _ H2 .refl ((((S.step x1 c1).step x2 c2).put (r.up x2.up) i).put r2 j)⟩
theorem es_parF {i j : Nat} (hc : X.calm = true) (hN : X.N.Nodup) (h1 : PE X a (tF W E mr)) (h2 : PE X b (tM W E mb)) (hi : X.N[i]? = some x := by rfl) (hj : X.N[j]? = some y := by rfl) (hij : i ≠ j := by decide)
    (hx : X.env.scope.names.lookup x = some .local := by rfl) (hy : X.env.scope.names.lookup y = some .local := by rfl) (hs1 : starEach [a, b] X.env = (false, eval a X.env) :: starEach [b] X.env := by rfl) (hs2 : starEach [b] X.env = (false, eval b X.env) :: starEach [] X.env := by rfl)
    (hw : swappedStores [.Tuple [.Name x p1, .Name y p2] kt pt] (.Tuple [a, b] k2 pt2) X.env = pure (some [x, y]) := by rfl)
    (hs : swapsWithSole [.Tuple [.Name x p1, .Name y p2] kt pt] (.Tuple [a, b] k2 pt2) pos.line X.env = pure false := by rfl) :
    PS X (.Assign [.Tuple [.Name x p1, .Name y p2] kt pt] (.Tuple [a, b] k2 pt2) pos) (tMS W E (parFS i j mr mb)) := weakS (ps_par hc hN hi hj hij hx hy (pa_cons h1 (pa_cons h2 pa_nil hs2) hs1) hw hs) fun D0 σ H ⟨F, e, g, S, p⟩ => by
  refine ⟨F, e, g, S, p.toS.mono fun ds g1 F1 H1 x1 c1 k1 q vs nq r => ?_⟩
  have S1 := (S.step x1 c1)
  have nop : ∀ (j : Nat) (fs : List D), e[j]? = some (Slot.own fs) → σ[j]? ≠ some (some (V.ref q)) := fun j fs h z => by
    obtain ⟨l, ws, z1, z2, z3, _⟩ := S1.owns j fs h
    rw [z] at z1
    cases z1
    rw [nq] at z3; cases z3
  refine ⟨_, e, g1, S1.lay nq, (k1.on (Xs.own nq)).toS.mono fun d2 g2 F2 H2 x2 c2 k2 u r2 => ?_⟩
  have S2 := (S1.lay (o := .lst vs) nq).step x2 c2
  have hq : q ∈ F2.om := by rw [x2.om]; exact List.mem_cons_self
  have hl : H2 q = some (.lst vs) := x2.keep _ _ upd_same fun z => (c1.none nq) (.inr (.inr z))
  exact ⟨_, u, rfl, k2 F2 _ H2 .refl ((S2.adopt hq hl ((r.up (Up.own nq)).up x2.up) nop i).put r2 j)⟩
/-! ### while -/
def whL (t : M Bool) (body : MS) : Nat → MS
  | 0 => fun _ _ => .bad
  | n + 1 => fun e g => (t e g).toS fun b g1 => if b = true then (match body e g1 with
    | .nx e2 g2 => whL t body n e2 g2
    | .ct e2 g2 => whL t body n e2 g2
    | .bk e2 g2 => .nx e2 g2
    | r => r) else .nx e g1
/-- what stands behind a turn -/
theorem SPost.turn {F : Fb} {H : Hp} {r : RS} {k : Env → List Cell → RS} {D D' : Ends} (p : SPost W E F H (match r with
    | .nx e2 g2 => k e2 g2
    | .ct e2 g2 => k e2 g2
    | .bk e2 g2 => .nx e2 g2
    | r => r) D) (hn : ∀ F' σ' H' e2 g2, Xs F F' H H' → St W F' e2 g2 σ' H' → SPost W E F' H' (k e2 g2) D → D'.nx σ' H' ∧ D'.ct σ' H') (hb : ∀ σ H, D.nx σ H → D'.bk σ H) (hr : ∀ v H, D.rt v H → D'.rt v H) : SPost W E F H r D' := by
  cases r with
  | nx e g => exact fun F2 σ2 H2 y s => (hn F2 σ2 H2 e g y s (p.on y)).1
  | bk e g => exact fun F2 σ2 H2 y s => hb _ _ (p F2 σ2 H2 y s)
  | ct e g => exact fun F2 σ2 H2 y s => (hn F2 σ2 H2 e g y s (p.on y)).2
  | rt d g => exact fun F2 H2 v y c r => hr _ _ (p F2 H2 v y c r)
  | ex c d g => exact p
  | bad => exact p
variable {body : List Stmt}
theorem es_while (n : Nat) (hp : PassesOwn (model X.prog X.w) X.A X.env X.xe) (hc : PT X c (tB W E na)) (hb : PSs X body (tMS W E s1)) : PS X (.While c body [] pos) (tMS W E (whL na s1 n)) := weakS (ps_while hp hc hb) fun D0 σ H ⟨F, e, g, S, p⟩ => by
  refine ⟨fun m σ' H' => ∃ F' e' g', St W F' e' g' σ' H' ∧ SPost W E F' H' (whL na s1 m e' g') D0, ⟨n, F, e, g, S, p⟩, ?_⟩
  rintro m σ' H' ⟨F', e', g', S', p'⟩
  cases m with
  | zero => exact p'.elim
  | succ m =>
    refine ⟨F', e', g', S', p'.toS.mono fun b g1 F1 H1 x1 c1 k => ?_⟩
    cases b with
    | false => exact k F1 σ' H1 .refl (S'.step x1 c1)
    | true =>
      refine ⟨fun σ2 H2 => ∃ F2 e2 g2, St W F2 e2 g2 σ2 H2 ∧ SPost W E F2 H2 (whL na s1 m e2 g2) D0, fun σ2 H2 h => ⟨m, Nat.lt_succ_self _, h⟩, F1, e', g1, S'.step x1 c1, ?_⟩
      exact SPost.turn k (fun F2 σ2 H2 e2 g2 _ s q => ⟨⟨F2, e2, g2, s, q⟩, ⟨F2, e2, g2, s, q⟩⟩) (fun _ _ h => h) fun _ _ h => h

/-! ### what is walked -/
/-- a walk gives the data ds, whatever the statements ahead have done -/
structure ItOk (W : Wd) (F : Fb) (H : Hp) (J : It) (ds : List D) : Prop where
  ex : ∃ (G : Hp → Prop) (Y : Nat → Hp → V → Hp → Prop), Walk J ds.length G Y ∧ (∀ F2 H2, Up F F2 H H2 → G H2) ∧
    ∀ (i : Nat) (H2 : Hp) (v : V) (H3 : Hp) (F2 : Fb) (g2 : List Cell), i < ds.length → Up F F2 H H2 → Cells W F2 H2 g2 → Y i H2 v H3 → ∃ d, ds[i]? = some d ∧ Rep W F2 H3 d v ∧ ∀ a o, H2 a = some o → H3 a = some o
def tIt (W : Wd) (E : XK) (m : M (List D)) : TI := fun σ H R => ∃ F e g, St W F e g σ H ∧ Post W E F H (m e g) fun ds _ F' H' => ∀ J, ItOk W F' H' J ds → R J H'
theorem weakI {tg iter : Expr} {t t' : TI} (h : PI X tg iter t) (w : ∀ σ H R, t' σ H R → t σ H R) : PI X tg iter t' := ⟨fun pins s σ H R I q => h.run pins s σ H R I (w σ H R q)⟩
/-- a list or a tuple -/
theorem pi_seq {tg l : Expr} {tl : TE} (hl : PE X l tl) : PI X tg l (fun σ H R => tl σ H fun v H1 => ∃ q, v = .ref q ∧ (((∃ vs, SqL X.K H1 q vs) ∧ R (Itl X.K q) H1) ∨ ((∃ vs, SqT X.K H1 q vs) ∧ R (Itt X.K q) H1))) := by
  refine ⟨fun pins s σ H R I h => ?_⟩
  refine thn (hl.run pins s σ H _ I h) fun v s1 ⟨w, H1, I1, r1, q1⟩ => ?_
  obtain ⟨q, rfl, q1⟩ := q1
  cases r1
  have fin : ∀ b ∈ [s1.heap.objs.size], FpOk X pins H1 b := fun b hb => by
    rw [List.mem_singleton.mp hb]
    exact I1.fpOk (Nat.le_refl _) (I1.hok.fresh (Nat.le_refl _))
  rcases q1 with ⟨⟨vs, hq⟩, k⟩ | ⟨⟨vs, hq⟩, k⟩
  · obtain ⟨its, _, pl, _⟩ := I1.list hq
    exact wpAny_pyIter_list pl.isList ⟨_, _, _, _, H1, rfl, I1.kept (t' := s1.toks) fun b o e => Heap.get?_push_of_some _ e, turn_list q _, ⟨_, Heap.get?_push_size _ rfl, rfl, rfl⟩, fin, k⟩
  · obtain ⟨its, _, pl, _⟩ := I1.tuple hq
    exact wpAny_pyIter_tuple (show s1.heap.IsTuple q its.toArray from pl) ⟨_, _, _, _, H1, rfl, I1.kept (t' := s1.toks) fun b o e => Heap.get?_push_of_some _ e, turn_tuple q _, ⟨_, Heap.get?_push_size _ rfl, rfl, rfl⟩, fin, k⟩
def seqIt (m : M D) : M (List D) := fun e g => (m e g).bind fun d g1 => match d with
  | .lst ds => .ok ds g1
  | .tup ds => .ok ds g1
  | _ => .bad
theorem lst_stays {F F2 : Fb} {H H2 : Hp} {a : Addr} {o : HO} (h : H a = some o) (n : ¬ F.has a) (x : Up F F2 H H2) : H2 a = some o := (x.keep a o h n).1
theorem ei_seq {tg : Expr} (hK : X.K = W.K) (ha : PE X a (tM W E ma)) : PI X tg a (tIt W E (seqIt ma)) := weakI (pi_seq ha) fun σ H R ⟨F, e, g, S, p⟩ => by
  refine ⟨F, e, g, S, (Post.bind p).mono fun d g1 F1 H1 x1 c1 k v r => ?_⟩
  cases d <;> try exact k.elim
  · rename_i ds
    obtain ⟨q, vs, rfl, t, rr⟩ := r
    refine ⟨q, rfl, .inr ⟨⟨vs, by rw [hK]; exact t.seq⟩, k F1 H1 .refl c1 _ ⟨_, _, by rw [rr.length]; exact walk_tup, fun F2 H2 x => by rw [hK]; exact (t.up x).seq, ?_⟩⟩⟩
    intro i H2 u H3 F2 g2 hi x c ⟨e1, y⟩
    obtain ⟨d, h1, h2⟩ := rr.get' y
    exact ⟨d, h1, by rw [e1]; exact h2.up x, fun _ _ h => by rw [e1]; exact h⟩
  · rename_i ds
    obtain ⟨q, vs, rfl, t, n, rr⟩ := r
    refine ⟨q, rfl, .inl ⟨⟨vs, .of t⟩, k F1 H1 .refl c1 _ ⟨_, _, by rw [rr.length]; exact walk_list, fun F2 H2 x => SqL.of (lst_stays t n x), ?_⟩⟩⟩
    intro i H2 u H3 F2 g2 hi x c ⟨e1, y⟩
    obtain ⟨d, h1, h2⟩ := rr.get' y
    exact ⟨d, h1, by rw [e1]; exact h2.up x, fun _ _ h => by rw [e1]; exact h⟩
def rngL (lo : Int) (n : Nat) : List D := (List.range n).map fun i => .int (lo + (i : Nat))
theorem rng_ok {F : Fb} {H : Hp} (lo : Int) (n : Nat) : ItOk W F H (Itr lo n) (rngL lo n) := by
  refine ⟨fun _ => True, _, by rw [show (rngL lo n).length = n by simp [rngL]]; exact walk_range, fun _ _ _ => trivial, ?_⟩
  intro i H2 u H3 F2 g2 hi x c ⟨e1, y⟩
  have hn : i < n := by simpa [rngL] using hi
  refine ⟨.int (lo + (i : Nat)), by simp [rngL, hn], ?_, fun _ _ h => by rw [e1]; exact h⟩
  rw [y]; exact rep_int _
def rngIt (m : M (List D)) : M (List D) := fun e g => (m e g).bind fun ds g1 => match ds with
  | [.int n] => if -4611686018427387904 ≤ n ∧ n < 4611686018427387904 then .ok (rngL 0 n.toNat) g1 else .bad
  | _ => .bad
def rng2It (m : M (List D)) : M (List D) := fun e g => (m e g).bind fun ds g1 => match ds with
  | [.int i, .int j] => if (-4611686018427387904 ≤ i ∧ i < 4611686018427387904) ∧ -4611686018427387904 ≤ j ∧ j < 4611686018427387904 then .ok (rngL i (j - i).toNat) g1 else .bad
  | _ => .bad
theorem ei_range1 {tg : Expr} (hg : Gl X "range") (hm : X.mg "range" = none) (ha : PA X [a] (tLs W E mr)) (hs : starEach [a] X.env = [(false, eval a X.env)] := by rfl) : PI X tg (.Call (.Name "range" p1) [a] [] pos) (tIt W E (rngIt mr)) :=
  weakI (pi_range1 hg hm ha hs) fun σ H R ⟨F, e, g, S, p⟩ => by
    refine ⟨F, e, g, S, (Post.bind p).mono fun ds g1 F1 H1 x1 c1 k vs r => ?_⟩
    cases ds with
    | nil => exact k.elim
    | cons d ds =>
      cases ds with
      | cons _ _ => cases d <;> exact k.elim
      | nil =>
        obtain ⟨v, rfl, rv⟩ := look1 r
        cases d <;> try exact k.elim
        rename_i n
        simp only at k
        split at k
        · rename_i hb
          cases (show v = .int n from rv)
          exact ⟨n, rfl, by omega, by omega, k F1 H1 .refl c1 _ (rng_ok 0 _)⟩
        · exact k.elim
/-- pairs of two walks -/
theorem pair_rep {F2 : Fb} {H2 : Hp} {g2 : List Cell} (c : Cells W F2 H2 g2) {T : Addr} (nT : H2 T = none) {d1 d2 : D} {v1 v2 : V} (r1 : Rep W F2 H2 d1 v1) (r2 : Rep W F2 H2 d2 v2) : Rep W F2 (upd H2 T (.tup [v1, v2])) (.tup [d1, d2]) (.ref T) :=
  tup_new c nT (show RepL W F2 H2 [d1, d2] [v1, v2] from ⟨v1, [v2], rfl, r1, v2, [], rfl, r2, rfl⟩)
def zipL (xs ys : List D) : List D := (xs.zip ys).map fun p => .tup [p.1, p.2]
def zipIt (m : M (List D)) : M (List D) := fun e g => (m e g).bind fun ds g1 => match ds with
  | [.lst xs, .lst ys] => .ok (zipL xs ys) g1
  | [.tup xs, .tup ys] => .ok (zipL xs ys) g1
  | _ => .bad
theorem zip_at {xs ys : List D} {i : Nat} {d1 d2 : D} (h1 : xs[i]? = some d1) (h2 : ys[i]? = some d2) : (zipL xs ys)[i]? = some (.tup [d1, d2]) := by
  unfold zipL
  rw [List.getElem?_map, (List.getElem?_zip_eq_some (z := (d1, d2))).mpr ⟨h1, h2⟩]; rfl
theorem rep1 {F : Fb} {H : Hp} {d : D} {vs : List V} (h : RepL W F H [d] vs) : ∃ v, vs = [v] ∧ Rep W F H d v := by
  obtain ⟨v, r, rfl, h1, h2⟩ := h
  cases (show r = [] from h2)
  exact ⟨v, rfl, h1⟩
theorem rep2 {F : Fb} {H : Hp} {d e : D} {vs : List V} (h : RepL W F H [d, e] vs) : ∃ v u, vs = [v, u] ∧ Rep W F H d v ∧ Rep W F H e u := by
  obtain ⟨v, r, rfl, h1, h2⟩ := h
  obtain ⟨u, rfl, h3⟩ := rep1 h2
  exact ⟨v, u, rfl, h1, h3⟩
theorem walk_zipT {K : PySem.W.Frag} {q1 q2 : Addr} {xs ys : List V} {n : Nat} (hn : n = min xs.length ys.length) : Walk (ItzT K q1 q2) n (fun H => SqT K H q1 xs ∧ SqT K H q2 ys) (YPair (fun i => xs[i]?) (fun i => ys[i]?)) := by
  subst hn
  refine ⟨fun i _ hi q => ?_, fun _ q => ⟨xs, ys, q.1, q.2, by omega⟩, fun i H v H' _ q z => ?_⟩
  · have l1 : i < xs.length := by omega
    have l2 : i < ys.length := by omega
    exact ⟨xs, ys, xs[i], ys[i], q.1, q.2, by simp [l1], by simp [l2]⟩
  · obtain ⟨T, u, w, h1, h2, h3, h4, h5⟩ := z
    exact ⟨T, u, w, h1, h2, h3, h4 xs q.1, h5 ys q.2⟩
theorem ei_zip {elts : List Expr} {kk : Nat} {tpos : Pos} (hK : X.K = W.K) (hg : Gl X "zip") (hm : X.mg "zip" = none) (ha : PA X [a, b] (tL W E mr)) (hs : starEach [a, b] X.env = (false, eval a X.env) :: starEach [b] X.env := by rfl) (hpl : (backTo pos (starEach [b] X.env)).any (·.1) = false := by rfl) :
    PI X (.Tuple elts kk tpos) (.Call (.Name "zip" p1) [a, b] [] pos) (tIt W E (zipIt mr)) :=
  weakI (pi_zipA hg hm ha hs hpl) fun σ H R ⟨F, e, g, S, p⟩ => by
    refine ⟨F, e, g, S, (Post.bind p).mono fun ds g1 F1 H1 x1 c1 k vs r => ?_⟩
    cases ds with
    | nil => exact k.elim
    | cons d ds =>
      cases ds with
      | nil => cases d <;> exact k.elim
      | cons d2 ds =>
        cases ds with
        | cons _ _ => cases d <;> cases d2 <;> exact k.elim
        | nil =>
          obtain ⟨v, u, rfl, rv, ru⟩ := rep2 r
          cases d <;> try exact k.elim
          · cases d2 <;> try exact k.elim
            rename_i xs ys
            obtain ⟨q1, us, rfl, t1, r1⟩ := rv
            obtain ⟨q2, ws, rfl, t2, r2⟩ := ru
            refine ⟨q1, q2, us, ws, rfl, .inr ⟨by rw [hK]; exact t1.seq, by rw [hK]; exact t2.seq, k F1 H1 .refl c1 _ ⟨_, _, walk_zipT (by unfold zipL; rw [List.length_map, List.length_zip, r1.length, r2.length]), fun F2 H2 x => by rw [hK]; exact ⟨(t1.up x).seq, (t2.up x).seq⟩, ?_⟩⟩⟩
            intro i H2 w H3 F2 g2 hi x c ⟨T, z1, z2, e1, e2, e3, e4, e5⟩
            obtain ⟨d1, h1, k1⟩ := r1.get' e4
            obtain ⟨d2, h2, k2⟩ := r2.get' e5
            rw [e1, e3]
            exact ⟨_, zip_at h1 h2, pair_rep c e2 (k1.up x) (k2.up x), keep_new e2⟩
          · cases d2 <;> try exact k.elim
            rename_i xs ys
            obtain ⟨q1, us, rfl, t1, n1, r1⟩ := rv
            obtain ⟨q2, ws, rfl, t2, n2, r2⟩ := ru
            refine ⟨q1, q2, us, ws, rfl, .inl ⟨.of t1, .of t2, k F1 H1 .refl c1 _ ⟨_, _, walk_zip (by unfold zipL; rw [List.length_map, List.length_zip, r1.length, r2.length]), fun F2 H2 x => ⟨.of (lst_stays t1 n1 x), .of (lst_stays t2 n2 x)⟩, ?_⟩⟩⟩
            intro i H2 w H3 F2 g2 hi x c ⟨T, z1, z2, e1, e2, e3, e4, e5⟩
            obtain ⟨d1, h1, k1⟩ := r1.get' e4
            obtain ⟨d2, h2, k2⟩ := r2.get' e5
            rw [e1, e3]
            exact ⟨_, zip_at h1 h2, pair_rep c e2 (k1.up x) (k2.up x), keep_new e2⟩

/-! ### for -/
def forL (tg : D → Env → Option Env) (body : MS) : List D → MS
  | [] => fun e g => .nx e g
  | d :: ds => fun e g => match tg d e with
    | none => .bad
    | some e1 => match body e1 g with
      | .nx e2 g2 => forL tg body ds e2 g2
      | .ct e2 g2 => forL tg body ds e2 g2
      | .bk e2 g2 => .nx e2 g2
      | r => r
def forS (it : M (List D)) (tg : D → Env → Option Env) (body : MS) : MS := fun e g => (it e g).toS fun ds g1 => forL tg body ds e g1
theorem drop_at {ds : List D} {i : Nat} {d : D} (h : ds[i]? = some d) : ds.drop i = d :: ds.drop (i + 1) := by
  obtain ⟨hi, e⟩ := List.getElem?_eq_some_iff.mp h
  rw [List.drop_eq_getElem_cons hi, e]
variable {f : D → Env → Option Env} {v1 : List Nat} {tg : Expr}
theorem St.kept {F : Fb} {e : Env} {g : List Cell} {σ : L2.St} {H H' : Hp} (S : St W F e g σ H) (k : ∀ a o, H a = some o → H' a = some o) : St W F e g σ H' := S.step (.all k) (S.cells.stay k)
theorem es_for (hp : PassesOwn (model X.prog X.w) X.A X.env X.xe) (hc : X.calm = true) (hi : PI X tg a (tIt W E mr)) (hg : PG X tg (tG W f v1)) (hb : PSs X body (tMS W E s1)) (hs : ∀ x, foldedSetIterable a X.env x = pure x := by intro _; rfl) :
    PS X (.For tg a body [] pos) (tMS W E (forS mr f s1)) := weakS (ps_for hp hc hi hg hb hs) fun D0 σ H ⟨F, e, g, S, p⟩ => by
  refine ⟨F, e, g, S, p.toS.mono fun ds g1 F1 H1 x1 c1 k J hJ => ?_⟩
  obtain ⟨G, Y, hw, hG, hY⟩ := hJ
  refine for_it hw (fun i σ' H' => ∃ F' e' g', Xs F1 F' H1 H' ∧ St W F' e' g' σ' H' ∧ SPost W E F' H' (forL f s1 (ds.drop i) e' g') D0) ⟨F1, e, g1, .refl, S.step x1 c1, k⟩ ?_ ?_ ?_
  · rintro i σ' H' _ ⟨F', _, _, x, _, _⟩
    exact hG F' H' x.up
  · rintro i v σ' H' H'' hi ⟨F', e', g', x, S', p'⟩ y
    obtain ⟨d, h1, h2, h3⟩ := hY i H' v H'' F' g' hi x.up S'.cells y
    rw [drop_at h1] at p'
    have S2 := S'.kept h3
    have x2 : Xs F' F' H' H'' := (Xe.all h3).xs
    have p2 := p'.on x2
    unfold forL at p2
    cases q : f d e' with
    | none => simp only [q] at p2; exact p2.elim
    | some e1 =>
      simp only [q] at p2
      refine ⟨F', e', g', d, e1, S2, h2, q, fun σ2 S3 _ => ⟨F', e1, g', S3, ?_⟩⟩
      exact SPost.turn p2 (fun F3 σ3 H3 e3 g3 x3 s3 q3 => ⟨⟨F3, e3, g3, (x.trans x2).trans x3, s3, q3⟩, ⟨F3, e3, g3, (x.trans x2).trans x3, s3, q3⟩⟩) (fun _ _ h => h) fun _ _ h => h
  · rintro σ' H' ⟨F', e', g', x, S', p'⟩
    rw [List.drop_length] at p'
    exact p' F' σ' H' .refl S'

/-! ### comprehensions -/
def R.noex {α : Type} (r : R α) : R α := match r with
  | .ok a g => .ok a g
  | _ => .bad
@[simp] theorem R.noex_ok {α : Type} (a : α) (g : List Cell) : (R.ok a g).noex = R.ok a g := rfl
def wipeE : Env → List Nat → Env
  | e, [] => e
  | e, v :: vs => (wipeE e vs).set v .no
def lcL (tg : D → Env → Option Env) (t : M Bool) (elt : M D) (e : Env) : List D → List Cell → R (List D)
  | [], g => .ok [] g
  | d :: ds, g => match tg d e with
    | none => .bad
    | some e1 => (t e1 g).noex.bind fun b g1 => if b = true then (elt e1 g1).noex.bind fun y g2 => (lcL tg t elt e ds g2).bind fun r g3 => .ok (y :: r) g3 else lcL tg t elt e ds g1
/-- the list's length must fit -/
def lcM (it : M (List D)) (tg : D → Env → Option Env) (t : M Bool) (elt : M D) (own : List Nat) : M (List D) := fun e g => (it e g).bind fun ds g1 => if ds.length ≤ 16777216 then lcL tg t elt (wipeE e own) ds g1 else .bad
def yesB : M Bool := fun _ g => .ok true g
theorem St.wipe {F : Fb} {e : Env} {g : List Cell} {σ : L2.St} {H : Hp} (S : St W F e g σ H) : ∀ ws : List Nat, St W F (wipeE e ws) g (L2.wipe σ ws) H
  | [] => S
  | w :: ws => by
    have S1 := St.wipe S ws
    refine ⟨S1.cells, by simpa [wipeE, L2.wipe] using S1.len, fun j d h => ?_, fun j ds h => ?_, fun j l fs hs b n k1 k2 k3 => ?_⟩
    · rcases set_get h with ⟨_, q⟩ | ⟨n, q⟩
      · cases q
      · show ∃ v, ((L2.wipe σ ws).set w none)[j]? = some (some v) ∧ _
        rw [List.getElem?_set_ne n]
        exact S1.slots j d q
    · rcases set_get h with ⟨_, q⟩ | ⟨n, q⟩
      · cases q
      · show ∃ a vs, ((L2.wipe σ ws).set w none)[j]? = some (some (.ref a)) ∧ _
        rw [List.getElem?_set_ne n]
        exact S1.owns j ds q
    · rcases set_get k1 with ⟨_, q⟩ | ⟨n1, q1⟩
      · cases q
      · rcases set_get k2 with ⟨_, q⟩ | ⟨n2, q2⟩
        · cases q
        · have k3' : ((L2.wipe σ ws).set w none)[j]? = some (some (.ref b)) := k3
          show ((L2.wipe σ ws).set w none)[l]? ≠ _
          rw [List.getElem?_set_ne n1] at k3'
          rw [List.getElem?_set_ne n2]
          exact S1.apart j l fs hs b n q1 q2 k3'
theorem wipe_wipe (σ : L2.St) : ∀ ws : List Nat, L2.wipe (L2.wipe σ ws) ws = L2.wipe σ ws := by
  intro ws
  have : ∀ vs : List Nat, (∀ v ∈ vs, v ∈ ws) → L2.wipe (L2.wipe σ vs) ws = L2.wipe σ ws := by
    intro vs
    induction vs with
    | nil => intro _; rfl
    | cons v vs ih =>
      intro h
      show L2.wipe ((L2.wipe σ vs).set v none) ws = _
      rw [wipe_set (h v List.mem_cons_self)]
      exact ih fun u hu => h u (List.mem_cons_of_mem _ hu)
  exact this ws fun _ h => h
/-- the heap without one object -/
def cut (H : Hp) (p : Addr) : Hp := fun b => if b = p then none else H b
theorem cut_same {H : Hp} {p : Addr} : cut H p p = none := by unfold cut; rw [if_pos rfl]
theorem cut_ne {H : Hp} {p b : Addr} (h : b ≠ p) : cut H p b = H b := by unfold cut; rw [if_neg h]
theorem cut_upd {H : Hp} {p : Addr} {o : HO} : cut (upd H p o) p = cut H p := by
  funext b
  by_cases h : b = p
  · rw [h, cut_same, cut_same]
  · rw [cut_ne h, cut_ne h, upd_ne h]
theorem upd_cut {H : Hp} {p : Addr} {o : HO} (h : H p = some o) : upd (cut H p) p o = H := by
  funext b
  by_cases q : b = p
  · rw [q, upd_same, h]
  · rw [upd_ne q, cut_ne q]
theorem cut_none {H : Hp} {p : Addr} (h : H p = none) : cut H p = H := by
  funext b
  by_cases q : b = p
  · rw [q, cut_same, h]
  · rw [cut_ne q]
theorem cut_some {H : Hp} {p b : Addr} {o : HO} (h : cut H p b = some o) : b ≠ p ∧ H b = some o := by
  by_cases q : b = p
  · rw [q, cut_same] at h; cases h
  · rw [cut_ne q] at h; exact ⟨q, h⟩
/-- with p among the callers' own -/
abbrev Fb.wi (F : Fb) (p : Addr) : Fb := { F with nu := p :: F.nu }
theorem wi_has {F : Fb} {p a : Addr} : (F.wi p).has a ↔ a = p ∨ F.has a := by
  constructor
  · rintro (h | h | h)
    · rcases List.mem_cons.mp h with h | h
      · exact .inl h
      · exact .inr (.inl h)
    · exact .inr (.inr (.inl h))
    · exact .inr (.inr (.inr h))
  · rintro (rfl | h | h | h)
    · exact .inl List.mem_cons_self
    · exact .inl (List.mem_cons_of_mem _ h)
    · exact .inr (.inl h)
    · exact .inr (.inr h)
theorem Up.wi {F : Fb} {H : Hp} {p : Addr} : Up F (F.wi p) (cut H p) H := ⟨fun a o e n => by
  obtain ⟨h1, h2⟩ := cut_some e
  exact ⟨h2, fun z => (wi_has.mp z).elim h1 n⟩, [], by simp⟩
theorem St.wi {F : Fb} {e : Env} {g : List Cell} {σ : L2.St} {H : Hp} {p : Addr} {o : HO} (S : St W F e g σ (cut H p)) (hp : H p = some o) : St W (F.wi p) e g σ H := by
  have np : ¬ F.has p := S.cells.none cut_same
  have tr : ∀ a u, cut H p a = some u → H a = some u := fun a u h => (cut_some h).2
  refine ⟨⟨S.cells.nd, S.cells.len, fun n a x h1 h2 => (S.cells.cel n a x h1 h2).up Up.wi ?_, fun a z => ?_, fun a h => ⟨fun z => ?_, (S.cells.dj a h).2⟩, fun a h z => ?_⟩, S.len, fun j d h => ?_, fun j ds h => ?_, S.apart⟩
  · exact (cut_ne (fun z => np (.inr (.inr (by rw [← z]; exact List.mem_of_getElem? h1))))).symm
  · rcases wi_has.mp z with z | z
    · exact ⟨o, by rw [z]; exact hp⟩
    · obtain ⟨u, q⟩ := S.cells.tr a z
      exact ⟨u, tr a u q⟩
  · rcases List.mem_cons.mp z with z | z
    · exact np (.inr (.inr (by rw [← z]; exact h)))
    · exact (S.cells.dj a h).1 z
  · rcases List.mem_cons.mp z with z | z
    · exact np (.inr (.inl (by rw [← z]; exact h)))
    · exact S.cells.dj2 a h z
  · obtain ⟨v, h1, h2⟩ := S.slots j d h
    exact ⟨v, h1, h2.up Up.wi⟩
  · obtain ⟨a, vs, h1, h2, h3, h4⟩ := S.owns j ds h
    exact ⟨a, vs, h1, h2, tr a _ h3, h4.up Up.wi⟩
theorem Up.wo {F : Fb} {H : Hp} {p : Addr} : Up (F.wi p) F H (cut H p) := ⟨fun a o e n => by
  have h1 : a ≠ p := fun z => n (wi_has.mpr (.inl z))
  exact ⟨by rw [cut_ne h1]; exact e, fun z => n (wi_has.mpr (.inr z))⟩, [], by simp⟩
/-- behind an expression that ran beside the list at p -/
theorem Xe.wo {F F2 : Fb} {H H2 : Hp} {p : Addr} {g2 : List Cell} {o : HO} (hp : H p = some o) (x : Xe (F.wi p) F2 H H2) (c : Cells W F2 H2 g2) (nf : p ∉ F.nu) :
    ∃ F3, F2 = F3.wi p ∧ Xe F F3 (cut H p) (cut H2 p) ∧ Cells W F3 (cut H2 p) g2 ∧ H2 p = some o := by
  have hnu : F2.nu = p :: F.nu := x.nu
  have e2 : F2 = ({ F2 with nu := F.nu } : Fb).wi p := by
    obtain ⟨a, b, d⟩ := F2
    have : a = p :: F.nu := hnu
    subst this
    rfl
  have hpn : p ∈ F2.nu := by rw [hnu]; exact List.mem_cons_self
  have nth : p ∉ F2.th := fun z => (c.dj p z).1 hpn
  have nom : p ∉ F2.om := fun z => c.dj2 p z hpn
  have n3 : ∀ a, ({ F2 with nu := F.nu } : Fb).has a → a ≠ p := fun a z w => by
    subst w
    rcases z with z | z | z
    · exact nf z
    · exact nom z
    · exact nth z
  refine ⟨{ F2 with nu := F.nu }, e2, ⟨fun a u h n => ?_, fun a u h => ?_, ?_, rfl, x.om⟩, ?_, ?_⟩
  · obtain ⟨h1, h2⟩ := cut_some h
    rw [cut_ne h1]
    exact x.keep a u h2 n
  · obtain ⟨h1, h2⟩ := cut_some h
    obtain ⟨u', k⟩ := x.st a u h2
    exact ⟨u', by rw [cut_ne h1]; exact k⟩
  · obtain ⟨m, h1, h2⟩ := x.th
    refine ⟨m, h1, fun a ha => ?_⟩
    have := h2 a ha
    by_cases q : a = p
    · rw [q]; exact cut_same
    · rw [cut_ne q]; exact this
  · have up : Up F2 { F2 with nu := F.nu } H2 (cut H2 p) := by
      have := Up.wo (F := { F2 with nu := F.nu }) (H := H2) (p := p)
      rw [← e2] at this
      exact this
    refine ⟨c.nd, c.len, fun n a y h1 h2 => (c.cel n a y h1 h2).up up (cut_ne fun z => nth (by rw [← z]; exact List.mem_of_getElem? h1)), fun a z => ?_, fun a h => ⟨fun z => (c.dj a h).1 (by rw [hnu]; exact List.mem_cons_of_mem _ z), (c.dj a h).2⟩, fun a h z => c.dj2 a h (by rw [hnu]; exact List.mem_cons_of_mem _ z)⟩
    have ha : F2.has a := by rw [e2]; exact wi_has.mpr (.inr z)
    obtain ⟨u, q⟩ := c.tr a ha
    exact ⟨u, by rw [cut_ne (n3 a z)]; exact q⟩
  · exact x.keep p o hp fun z => nth (by
      obtain ⟨m, h1, _⟩ := x.th
      rw [h1]
      exact List.mem_append_left _ z)
theorem post_noex {α β : Type} {F : Fb} {H : Hp} {r : R α} {f : α → List Cell → R β} {k : β → List Cell → Fb → Hp → Prop} (p : Post W E F H (r.noex.bind f) k) : ∃ y g2, r = .ok y g2 ∧ Post W E F H (f y g2) k := by
  cases r with
  | ok y g2 => exact ⟨y, g2, rfl, p⟩
  | ex c d g => exact p.elim
  | bad => exact p.elim
theorem bind_assoc {α β γ : Type} (r : R α) (f : α → List Cell → R β) (h : β → List Cell → R γ) : (r.bind f).bind h = r.bind fun a g => (f a g).bind h := by
  cases r <;> rfl
variable {elt iter : Expr} {ifs : List Expr} {scope : Scope} {own : List (Str × Nat)}
theorem r_lc (hv : ∀ i ∈ v1, i ∈ own.map (·.2)) {σ : L2.St} {H : Hp} {Q : VK} (h : tF W E (lcM mr f na ma (own.map (·.2))) σ H Q) : tLc (tIt W E mr) (tG W f v1) (tB W (fun _ _ _ => False) na) (tM W (fun _ _ _ => False) ma) (own.map (·.2)) σ H Q := by
  obtain ⟨F, e, g, S, p⟩ := h
  refine ⟨F, e, g, S, (Post.bind p).mono fun ds g1 F1 H1 x1 c1 k J hJ => ?_⟩
  intro q nq
  split at k
  case isFalse => exact k.elim
  rename_i hlen
  obtain ⟨G, Y, hw, hG, hY⟩ := hJ
  have S1 := S.step x1 c1
  have Sw := S1.wipe (own.map (·.2))
  have nF1 : ¬ F1.has q := c1.none nq
  refine lc_it hw (fun i H' => i ≤ ds.length ∧ ∃ F' g' acc vs, Xe F1 F' H1 (cut H' q) ∧ Cells W F' (cut H' q) g' ∧ H' q = some (.lst vs) ∧ RepL W F' (cut H' q) acc vs ∧ acc.length ≤ i ∧
    Post W E F' (cut H' q) ((lcL f na ma (wipeE e (own.map (·.2))) (ds.drop i) g').bind fun r g3 => .ok (acc ++ r) g3) fun ds' _ F'' H'' => ∀ p vs, H'' p = none → RepL W F'' H'' ds' vs → Q (.ref p) (upd H'' p (.lst vs))) ?_ ?_ ?_ ?_
  · refine ⟨Nat.zero_le _, F1, g1, [], [], ?_, ?_, upd_same, rfl, Nat.le_refl _, ?_⟩
    · rw [cut_upd, cut_none nq]; exact .refl
    · rw [cut_upd, cut_none nq]; exact c1
    · rw [cut_upd, cut_none nq]
      have : ((lcL f na ma (wipeE e (own.map (·.2))) (ds.drop 0) g1).bind fun r g3 => R.ok ([] ++ r) g3) = lcL f na ma (wipeE e (own.map (·.2))) ds g1 := by
        rw [List.drop_zero]
        cases lcL f na ma (wipeE e (own.map (·.2))) ds g1 <;> rfl
      rw [this]
      exact k
  · rintro i H' _ ⟨_, F', g', acc, vs, x, c, hq, r, hl, k⟩
    refine hG F' H' ⟨fun a o h n => ?_, let ⟨m, e, _⟩ := x.th; ⟨m, e⟩⟩
    obtain ⟨k1, k2⟩ := x.up.keep a o h n
    exact ⟨(cut_some k1).2, k2⟩
  · rintro i v H' H'' hi ⟨hil, F', g', acc, vs, x, c, hq, r, hl, k⟩ y
    have Sc : St W F' (wipeE e (own.map (·.2))) g' (L2.wipe σ (own.map (·.2))) (cut H' q) := Sw.step x c
    have Si := Sc.wi hq
    have up : Up F1 (F'.wi q) H1 H' := ⟨fun a o h n => by
      obtain ⟨k1, k2⟩ := x.up.keep a o h n
      obtain ⟨k3, k4⟩ := cut_some k1
      exact ⟨k4, fun z => (wi_has.mp z).elim k3 k2⟩, let ⟨m, e, _⟩ := x.th; ⟨m, e⟩⟩
    obtain ⟨d, h1, h2, h3⟩ := hY i H' v H'' (F'.wi q) g' hi up Si.cells y
    have S2 := Si.kept h3
    have hq2 : H'' q = some (.lst vs) := h3 q _ hq
    rw [drop_at h1] at k
    unfold lcL at k
    cases qf : f d (wipeE e (own.map (·.2))) with
    | none => simp only [qf] at k; exact k.elim
    | some e1 =>
      simp only [qf] at k
      rw [bind_assoc] at k
      obtain ⟨b, g2, hb, k⟩ := post_noex k
      refine ⟨F'.wi q, _, g', d, e1, S2, h2, qf, fun σ2 S3 w2 => ⟨?_, ?_⟩⟩
      · rw [w2 _ hv, wipe_wipe]
      · have x0 : Xe F' F' (cut H' q) (cut H'' q) := .all fun a o h => by
          obtain ⟨z1, z2⟩ := cut_some h
          rw [cut_ne z1]; exact h3 a o z2
        have nfp : q ∉ F'.nu := fun z => by rw [x.nu] at z; exact nF1 (.inl z)
        refine ⟨F'.wi q, e1, g', S3, ?_⟩
        rw [hb]
        intro F3 H3 x3 c3
        obtain ⟨F4, rfl, x4, c4, hq4⟩ := Xe.wo hq2 x3 c3 nfp
        have x05 := x0.trans x4
        cases b with
        | false =>
          rw [if_neg Bool.false_ne_true]
          refine ⟨hi, F4, g2, acc, vs, x.trans x05, c4, hq4, r.up x05.up, Nat.le_succ_of_le hl, ?_⟩
          rw [if_neg Bool.false_ne_true] at k
          exact Post.on k x05
        | true =>
          rw [if_pos rfl]
          rw [if_pos rfl, bind_assoc] at k
          obtain ⟨yv, g3, hy, k⟩ := post_noex k
          refine ⟨F4.wi q, e1, g2, S3.step x3 c3, ?_⟩
          rw [hy]
          intro F5 H5 x5 c5 u ru
          have nfp4 : q ∉ F4.nu := by rw [x4.nu]; exact nfp
          obtain ⟨F6, rfl, x6, c6, hq6⟩ := Xe.wo hq4 x5 c5 nfp4
          have x06 := x05.trans x6
          refine ⟨vs, hq6, ?_, hi, F6, g3, acc ++ [yv], vs ++ [u], ?_, ?_, upd_same, ?_, ?_, ?_⟩
          · rw [sizeLine_eq]
            have := r.length
            omega
          · rw [cut_upd]; exact x.trans x06
          · rw [cut_upd]; exact c6
          · rw [cut_upd]
            exact (r.up x06.up).append (RepL.one (ru.up Up.wo))
          · simp only [List.length_append, List.length_singleton]; omega
          · rw [cut_upd]
            have k' := Post.on k x06
            have : (((lcL f na ma (wipeE e (own.map (·.2))) (ds.drop (i + 1)) g3).bind fun r g3 => R.ok (yv :: r) g3).bind fun r g3 => R.ok (acc ++ r) g3) = ((lcL f na ma (wipeE e (own.map (·.2))) (ds.drop (i + 1)) g3).bind fun r g3 => .ok ((acc ++ [yv]) ++ r) g3) := by
              rw [bind_assoc]
              congr 1
              funext r g3
              show R.ok (acc ++ (yv :: r)) g3 = _
              rw [List.append_assoc]; rfl
            rw [← this]
            exact k'
  · rintro H' ⟨_, F', g', acc, vs, x, c, hq, r, hl, k⟩
    rw [List.drop_length] at k
    have := k F' (cut H' q) .refl c q vs cut_same (by rw [List.append_nil]; exact r)
    rw [upd_cut hq] at this
    exact this
/-- a list comprehension, its list a new one -/
theorem ev_lc (hc : X.calm = true) (hN : X.N.Nodup) (hi : PI X tg iter (tIt W E mr)) (ok : BlkOk X.N X.env.scope scope own)
    (hg : ∀ (s : Shared) (H : Hp) (C : Addr) (cl : List (Str × Addr)) (fp : List Addr), PG (X.blk s H scope (compEnvC scope cl C X.env) fp) tg (tG W f v1))
    (ht : ∀ (s : Shared) (H : Hp) (C : Addr) (cl : List (Str × Addr)) (fp : List Addr), PTs (X.blk s H scope (compEnvC scope cl C X.env) fp) ifs (tB W (fun _ _ _ => False) na))
    (he : ∀ (s : Shared) (H : Hp) (C : Addr) (cl : List (Str × Addr)) (fp : List Addr), PE (X.blk s H scope (compEnvC scope cl C X.env) fp) elt (tM W (fun _ _ _ => False) ma))
    (hv : ∀ i ∈ v1, i ∈ own.map (·.2) := by decide) (hs : ∀ x, foldedSetIterable iter X.env x = pure x := by intro _; rfl) :
    PE X (.ListComp elt [⟨tg, iter, ifs, 0⟩] scope pos) (tF W E (lcM mr f na ma (own.map (·.2)))) := weakE (pe_lc hc hN hi ok hg ht he hs) fun _ _ _ h => r_lc hv h
theorem epts_nil : PTs X [] (tB W E yesB) := ⟨fun pins s σ H Q I ⟨F, e, g, S, p⟩ => pts_nil.run pins s σ H Q I (p F H .refl S.cells)⟩
theorem epts_one (h : PT X c (tB W E na)) : PTs X [c] (tB W E na) := pts_one h
/-- name = [..] on one line -/
theorem es_setLc {i : Nat} {sp : Pos} (hc : X.calm = true) (hN : X.N.Nodup) (hsw : swapsWith (.ListComp elt [⟨tg, iter, ifs, 0⟩] scope pos) (some (.Name y p1)) sp.line X.env = pure true) (hi : PI X tg iter (tIt W E mr)) (ok : BlkOk X.N X.env.scope scope own)
    (hg : ∀ (s : Shared) (H : Hp) (C : Addr) (cl : List (Str × Addr)) (fp : List Addr), PG (X.blk s H scope (compEnvC scope cl C X.env) fp) tg (tG W f v1))
    (ht : ∀ (s : Shared) (H : Hp) (C : Addr) (cl : List (Str × Addr)) (fp : List Addr), PTs (X.blk s H scope (compEnvC scope cl C X.env) fp) ifs (tB W (fun _ _ _ => False) na))
    (he : ∀ (s : Shared) (H : Hp) (C : Addr) (cl : List (Str × Addr)) (fp : List Addr), PE (X.blk s H scope (compEnvC scope cl C X.env) fp) elt (tM W (fun _ _ _ => False) ma))
    (hy : X.N[i]? = some y := by rfl) (hyl : X.env.scope.names.lookup y = some .local := by rfl) (hv : ∀ i ∈ v1, i ∈ own.map (·.2) := by decide) (hs : ∀ x, foldedSetIterable iter X.env x = pure x := by intro _; rfl) :
    PS X (.Assign [.Name y p1] (.ListComp elt [⟨tg, iter, ifs, 0⟩] scope pos) sp) (tMS W E (ownS (lcM mr f na ma (own.map (·.2))) i)) :=
  weakS (ps_setLc hc hN hy hyl hsw hi ok hg ht he hs) fun D0 σ H ⟨F, e, g, S, p⟩ => r_lc hv ⟨F, e, g, S, p.toS.mono fun ds g1 F1 H1 x c k q vs nq r => k _ _ _ (Xs.own nq) ((S.step x c).putO nq r i)⟩
end
end Ev

/-! Ev5: defs whose surroundings show no repr under way; their calls; a law's end; repr. -/
namespace Ev
open PySem PySem.Spec PyProof.Rows L2

/-- a def keeps a promise, called where no repr is under way -/
structure FnG (P : Program) (w : World) (K : PySem.W.Frag) (mg : Str → Option Value) (base : Heap) (CX : CXT) (k : Nat) (f : Addr) (fd : FuncData) (ps : List Str) (sp : Sp) : Prop where
  ar : ∀ vs H Q E, sp vs H Q E → vs.length = ps.length
  go : ∀ (A : Around) (out : List PySem.Env) (s : Shared) (H : Hp) (args : Args) (us : List Value) (vs : List V) (Q : VK) (E : XK),
    A.guards = some [] → Room k A → Env0 P w K mg base A out s H → BindsTo s fd args (ps.zip us) → Vals vs us → sp vs H Q E →
      codeAny (model P w) A (.call (.ref f) args) (CR CX out P w H s Q E) s
section
variable {P : Program} {w : World} {K : PySem.W.Frag} {mg : Str → Option Value} {base : Heap} {CX : CXT} {k : Nat} {f : Addr} {fd : FuncData} {ps : List Str} {sp : Sp}
theorem FnG.of (F : FnOk P w K mg base CX k f fd ps sp) : FnG P w K mg base CX k f fd ps sp :=
  ⟨F.len, fun A out s H args us vs Q E _ hr e b r h => F.run A out s H args us vs Q E hr e b r h⟩
theorem FnG.up {j : Nat} (F : FnG P w K mg base CX k f fd ps sp) (h : k ≤ j) : FnG P w K mg base CX j f fd ps sp :=
  ⟨F.ar, fun A out s H args us vs Q E hg hr => F.go A out s H args us vs Q E hg (hr.mono h)⟩
/-- by the body -/
theorem fnG_of {name qual : Str} {prm : Arguments} {body : List Stmt} {sc : Scope} {dV kV doc pm cdv ct oc : Value} {an od : Option Addr} {osl : Array (Option Value)} {N : List Str}
    (lk : K.lookup f = some ⟨oc, od, .func (PySem.W.fnOf name qual prm body sc dV kV doc pm an cdv ct), osl⟩) (hcd : PySem.W.codeIn K cdv qual = true) (S : FnScope N ps sc) (ar : ∀ vs H Q E, sp vs H Q E → vs.length = ps.length)
    (hb : ∀ (A : Around) (out : List PySem.Env) (s : Shared) (H : Hp) (vs : List V) (Q : VK) (E : XK), (A.deeper (envOfC qual sc s.heap.objs.size f cdv)).guards = some [] → Room k (A.deeper (envOfC qual sc s.heap.objs.size f cdv)) → sp vs H Q E →
      ∃ t, PSs (cxOf CX P w K mg base N qual sc f cdv A out s H E) body t ∧ t { nx := fun _ H' => Q .non H', rt := Q } (L2.start N vs) H) :
    FnG P w K mg base CX (k + 1) f (PySem.W.fnOf name qual prm body sc dV kV doc pm an cdv ct) ps sp := by
  refine ⟨ar, fun A out s H args us vs Q E hg hr e0 bt rv h => ?_⟩
  have l0 := ar _ _ _ _ h
  have KX : K.In s.heap := e0.mod.kin.keeps fun b o q => (e0.bs b o q).1
  have lim : s.heap.NoLimit := e0.mod.nolimit.keeps fun b o q => (e0.bs b o q).1
  have kinds : ∀ z ∈ ps.zip us, sc.names.lookup z.1 = some .local ∨ (sc.names.lookup z.1 = some .cell ∧ ((cellsFrom (s.heap.objs.size + 1) sc.names []).lookup z.1).isSome = true) := by
    rintro ⟨n, v⟩ hz
    rcases S.par n (List.of_mem_zip hz).1 with q | q
    · exact .inl q
    · exact .inr ⟨q, PySem.W.cellsFrom_some _ _ _ (.inl q)⟩
  refine codeAny_call_function hr.depth (KX _ _ lk) rfl S.co S.gen rfl (PySem.W.codeRec_of KX hcd) (bt _ _ _ _ ?_)
  refine wpAny_newFunctionEnv_cells S.kind kinds fun env q s1 x => ?_
  subst q
  refine ⟨lim.keeps x.toInCall.keep, codeAny_func ?_⟩
  obtain ⟨t, ht, hq⟩ := hb A out s H vs Q E (by exact hg) (hr.deeper _) h
  have I := inv_start (CX := CX) (P := P) (w := w) (K := K) (mg := mg) (base := base) (qual := qual) (f := f) (cd := cdv) (A := A) (outer := out) (E := E) S hr.hd e0 l0 rv x
  refine wpAny_mono (ht.run [] s1 (L2.start N vs) H _ I hq) (fun fl s' z => ?_) fun _ _ z => z
  cases fl with
  | next =>
    obtain ⟨_, H', J, z⟩ := z
    exact ⟨V.non, H', J.os, J.bare, J.base, J.hok, rfl, z⟩
  | ret u =>
    obtain ⟨v, _, H', J, r, z⟩ := z
    exact ⟨v, H', J.os, J.bare, J.base, J.hok, r, z⟩
  | brk => obtain ⟨_, _, _, z⟩ := z; exact z.elim
  | cont => obtain ⟨_, _, _, z⟩ := z; exact z.elim
end

/-! ### the evaluator's promise -/
@[irreducible] def fnM (n N : Nat) (body : MS) : List D → List Cell → R D := fun ds g => if ds.length = n then (match body (ds.map .v ++ List.replicate (N - n) .no) g with
  | .nx _ g1 => .ok .non g1
  | .rt d g1 => .ok d g1
  | .ex c d g1 => .ex c d g1
  | _ => .bad) else .bad
def spEv (W : Wd) (n : Nat) (f : List D → List Cell → R D) : Sp := fun vs H Q E => ∃ nu th ds g, Cells W ⟨nu, [], th⟩ H g ∧ RepL W ⟨nu, [], th⟩ H ds vs ∧ ds.length = n ∧ Post W E ⟨nu, [], th⟩ H (f ds g) fun d _ F' H' => ∀ v, Rep W F' H' d v → Q v H'
theorem spEv_len {W : Wd} {n : Nat} {f : List D → List Cell → R D} {vs : List V} {H : Hp} {Q : VK} {E : XK} (h : spEv W n f vs H Q E) : vs.length = n := by
  obtain ⟨nu, th, ds, g, _, r, hl, _⟩ := h
  rw [← r.length]; exact hl
section
variable {W : Wd} {E : XK} {F : Fb} {H : Hp} {g : List Cell}
theorem st_start {nu th : List Addr} {ds : List D} {vs : List V} {N : List Str} (c : Cells W ⟨nu, [], th⟩ H g) (r : RepL W ⟨nu, [], th⟩ H ds vs) : St W ⟨nu, [], th⟩ (ds.map .v ++ List.replicate (N.length - ds.length) .no) g (L2.start N vs) H := by
  have hl := r.length
  have no_own : ∀ (i : Nat) (fs : List D), ¬ (ds.map Slot.v ++ List.replicate (N.length - ds.length) Slot.no)[i]? = some (.own fs) := fun i fs h => by
    by_cases hi : i < ds.length
    · rw [List.getElem?_append_left (by simpa using hi), List.getElem?_map, List.getElem?_eq_getElem hi] at h
      cases h
    · rw [List.getElem?_append_right (by simpa using hi), List.getElem?_replicate] at h
      split at h <;> cases h
  refine ⟨c, by simp [L2.start, hl], fun i d h => ?_, fun i fs h => absurd h (no_own i fs), fun i j fs hs a n h => absurd h (no_own i fs)⟩
  by_cases hi : i < ds.length
  · rw [List.getElem?_append_left (by simpa using hi), List.getElem?_map, List.getElem?_eq_getElem hi] at h
    cases h
    obtain ⟨v, h1, h2⟩ := r.get (List.getElem?_eq_getElem hi)
    refine ⟨v, ?_, h2⟩
    unfold L2.start
    rw [List.getElem?_append_left (by rw [List.length_map, ← hl]; exact hi), List.getElem?_map, h1]; rfl
  · rw [List.getElem?_append_right (by simpa using hi), List.getElem?_replicate] at h
    split at h <;> cases h
theorem fn_post {nu th : List Addr} {r : RS} {Q : VK} (p : Post W E ⟨nu, [], th⟩ H (match r with
    | .nx _ g1 => R.ok .non g1
    | .rt d g1 => .ok d g1
    | .ex c d g1 => .ex c d g1
    | _ => .bad) fun d _ F' H' => ∀ v, Rep W F' H' d v → Q v H') : SPost W E ⟨nu, [], th⟩ H r { nx := fun _ H' => Q .non H', rt := Q } := by
  have key : ∀ {F' : Fb} {H' : Hp}, Xs ⟨nu, [], th⟩ F' H H' → Xe ⟨nu, [], th⟩ F'.base H H' := fun {F' H'} x =>
    ⟨fun a o h n => x.keep a o h n (by simp), x.st, x.th, x.nu, rfl⟩
  cases r with
  | nx e g1 => exact fun F' σ' H' x s => p F'.base H' (key x) s.cells.base .non rfl
  | rt d g1 => exact fun F' H' v x c r => p F'.base H' (key x) c v r
  | ex c d g1 => exact fun F' H' dx v x c r hd => p F'.base H' dx v (key x) c r hd
  | bk e g1 => exact p.elim
  | ct e g1 => exact p.elim
  | bad => exact p.elim
end
/-- a def that lets no exception out -/
theorem fn_ev {P : Program} {w : World} {mg : Str → Option Value} {base : Heap} {W : Wd} {k n m : Nat} {x qual : Str} {st : Stmt} {f : Addr} {fd : FuncData} {N ps : List Str} {body : MS} (F : Fun W.K x qual st f fd) (S : FnScope N ps (defScope st)) (hn : ps.length = n) (hm : N.length = m)
    (h : ∀ (cdv : Value) (A : Around) (out : List PySem.Env) (s : Shared) (H : Hp) (E : XK), (A.deeper (envOfC qual (defScope st) s.heap.objs.size f cdv)).guards = some [] → Room k (A.deeper (envOfC qual (defScope st) s.heap.objs.size f cdv)) →
      PSs (cxOf CX0 P w W.K mg base N qual (defScope st) f cdv A out s H E).nox (defBody st) (tMS W E body)) : FnG P w W.K mg base CX0 (k + 1) f fd ps (spEv W n (fnM n m body)) := by
  subst hn hm
  obtain ⟨oc, od, kV, doc, pm, an, cdv, ct, osl, rfl, lk, hcd⟩ := F.ex
  refine fnG_of lk hcd S (fun vs H Q E q => spEv_len q) fun A out s H vs Q E hg hr hsp => ⟨_, (h cdv A out s H E hg hr).nox, ?_⟩
  obtain ⟨nu, th, ds, g, c, r, hl, p⟩ := hsp
  have S0 := st_start (N := N) c r
  rw [hl] at S0
  unfold fnM at p
  rw [if_pos hl] at p
  exact ⟨_, _, g, S0, fn_post p⟩

/-! ### calls -/
section
variable {W : Wd} {E : XK} {X : Cx} {CX : CXT} {k n : Nat} {f : Addr} {fd : FuncData} {ps : List Str} {fs : List D → List Cell → R D} {x : Str} {p pos : Pos} {e : Expr} {es : List Expr} {mr : M (List D)} {ds : List Value} {dvs : List V}
def callM (n : Nat) (f : List D → List Cell → R D) (m : M (List D)) : M D := fun e g => (m e g).bind fun ds g1 => if ds.length = n then f ds g1 else .bad
def Fb.out (F : Fb) : Fb := ⟨F.nu ++ F.om, [], F.th⟩
theorem out_has {F : Fb} {a : Addr} : F.out.has a ↔ F.has a := by
  unfold Fb.has Fb.out
  simp only [List.mem_append, List.not_mem_nil, false_or]
  constructor
  · rintro ((h | h) | h)
    · exact .inl h
    · exact .inr (.inl h)
    · exact .inr (.inr h)
  · rintro (h | h | h)
    · exact .inl (.inl h)
    · exact .inl (.inr h)
    · exact .inr h
theorem Up.of_has {F F' : Fb} {H : Hp} (h : ∀ a, F'.has a → F.has a) (ht : F'.th = F.th) : Up F F' H H := ⟨fun a o e n => ⟨e, fun z => n (h a z)⟩, [], by rw [ht]; simp⟩
theorem Cells.out {F : Fb} {H : Hp} {g : List Cell} (c : Cells W F H g) : Cells W F.out H g :=
  c.less (fun a h => out_has.mp h) rfl (fun a h => ⟨fun z => (List.mem_append.mp z).elim (c.dj a h).1 (c.dj a h).2, by simp [Fb.out]⟩) fun a h => by cases h
/-- behind a call -/
theorem post_in {F : Fb} {H : Hp} {g : List Cell} {r : R D} {Q : VK} (c : Cells W F H g) (q : Post W E F H r fun d _ F' H' => ∀ v, Rep W F' H' d v → Q v H') : Post W E F.out H r fun d _ F' H' => ∀ v, Rep W F' H' d v → Q v H' := by
  have key : ∀ {F' : Fb} {H' : Hp} {g' : List Cell}, Xe F.out F' H H' → Cells W F' H' g' → Xe F ⟨F.nu, F.om, F'.th⟩ H H' ∧ Cells W ⟨F.nu, F.om, F'.th⟩ H' g' ∧ Up F' ⟨F.nu, F.om, F'.th⟩ H' H' := fun {F' H' g'} x c' => by
    have hh : ∀ a, (⟨F.nu, F.om, F'.th⟩ : Fb).has a → F'.has a := fun a z => by
      rcases z with z | z | z
      · exact .inl (by rw [x.nu]; exact List.mem_append_left _ z)
      · exact .inl (by rw [x.nu]; exact List.mem_append_right _ z)
      · exact .inr (.inr z)
    refine ⟨⟨x.keep, x.st, x.th, rfl, rfl⟩, c'.less hh rfl (fun a h => ?_) c.dj2, Up.of_has hh rfl⟩
    have := (c'.dj a h).1
    rw [x.nu] at this
    exact ⟨fun z => this (List.mem_append_left _ z), fun z => this (List.mem_append_right _ z)⟩
  cases r with
  | ok d g' =>
    intro F' H' x c' v rv
    obtain ⟨h1, h2, h3⟩ := key x c'
    exact q _ H' h1 h2 v (rv.up h3)
  | ex cc d g' =>
    intro F' H' dx v x c' rv hd
    obtain ⟨h1, h2, h3⟩ := key x c'
    exact q _ H' dx v h1 h2 (rv.up h3) (hd.up h3)
  | bad => exact q
theorem sp_in {F : Fb} {H : Hp} {g : List Cell} {ds : List D} {vs : List V} {Q : VK} (c : Cells W F H g) (r : RepL W F H ds vs) (q : Post W E F H (if ds.length = n then fs ds g else .bad) fun d _ F' H' => ∀ v, Rep W F' H' d v → Q v H') : spEv W n fs vs H Q E := by
  split at q
  · rename_i hl
    exact ⟨_, _, ds, g, c.out, r.up (Up.of_has (fun a h => out_has.mp h) rfl), hl, post_in c q⟩
  · exact q.elim
theorem run_fnG {sp : Sp} {pins : List (Addr × Obj)} {σ : L2.St} {H : Hp} {s : Shared} {Q : VK} {us : List Value} {vs : List V} (G : FnG X.prog X.w X.K X.mg X.base CX k f fd ps sp) (hg : X.A.guards = some []) (hr : Room k X.A) (bd : Binds X.K fd ps ds) (hd : Vals dvs ds)
    (px : Passes CX X E) (I : Inv X pins σ H s) (r : Vals vs us) (h : sp (vs ++ dvs) H Q E) : wpAny (model X.prog X.w) X.A (call (.ref f) us) (EP X pins σ Q) X.xe s := by
  have r2 := r.append hd
  have l2 : (us ++ ds).length = ps.length := r2.length.symm.trans (G.ar _ _ _ _ h)
  refine wpAny_call (codeAny_mono (G.go X.A X.stack s H ⟨us, []⟩ _ _ Q E hg hr I.env0 (bd s us I.kIn l2) r2 h) fun res s' z => ?_)
  rcases res with er | (u | _ | _ | _)
  · exact px pins σ H s er s' I z
  all_goals first
    | exact I.after z
    | exact z.elim
theorem ev_call (G : FnG X.prog X.w X.K X.mg X.base CX k f fd ps (spEv W n fs)) (hG : X.A.guards = some []) (hr : Room k X.A) (hg : Gl X x) (hm : X.mg x = some (.ref f)) (hk : PySem.W.keepIn X.K (.ref f) = true) (bd : Binds X.K fd ps []) (px : Passes CX X E)
    (ha : PA X (e :: es) (tL W E mr)) (hdb : (x == ("__debug__" : Str)) = false := by decide) (he : starEach (e :: es) X.env = (false, eval e X.env) :: starEach es X.env := by rfl) (hpl : (backTo pos (starEach es X.env)).any (·.1) = false := by rfl) :
    PE X (.Call (.Name x p) (e :: es) [] pos) (tM W E (callM n fs mr)) := by
  refine ⟨fun pins s σ H Q I ⟨F, en, g, S, q⟩ => wpAny_Call_Name_kw (ld_glob I hg hm ?_ hdb)⟩
  refine PySem.W.callWith_K (h₀ := X.base) I.ok.mod.kin hk (thn (ha.run pos pins s σ H _ I ⟨F, en, g, S, (Post.bind q).mono fun ds g1 F1 H1 x1 c1 k1 vs r => (⟨F1, ds, g1, c1, r, k1⟩ : ∃ F1 ds g1, Cells W F1 H1 g1 ∧ RepL W F1 H1 ds vs ∧ Post W E F1 H1 (if ds.length = n then fs ds g1 else .bad) fun d _ F' H' => ∀ v, Rep W F' H' d v → Q v H')⟩) fun us s1 ⟨vs, H1, I1, r, F1, ds, g1, c1, rr, k1⟩ => ⟨I1.kIn, ?_⟩) he hpl
  exact run_fnG (dvs := []) (ds := []) G hG hr bd .nil px I1 r (by rw [List.append_nil]; exact sp_in c1 rr k1)
end
/-- no exception at all -/
theorem pass00 {X : Cx} {E : XK} : Passes CX0 X E := fun _ _ _ _ _ _ _ h => h.elim

/-! ### the law's own call -/
end Ev

/-! Ev6: repr of data. -/
namespace Ev
open PySem PySem.Spec PyProof.Rows L2

theorem repr_reads {prog : Program} {w : World} {A : Around} {E : Value → Shared → Prop} {s : Shared} {v : Value} {d : PyData} {as : List Addr} {Q : Value → Shared → Prop} (r : Reads s.heap v d as) (hs : d.showable = true) (hd : d.hasDict = false) (hg : A.guards = some []) (hu : A.units + d.depth + 2 < cLine)
    (hz : d.shown.length ≤ sizeLine) (hQ : ∀ h' tk u, (∀ b o, s.heap.get? b = some o → h'.get? b = some o) → Q (.str d.shown u) { s with heap := h', toks := tk }) : wpAny (model prog w) A (call (.builtin "repr") [v]) Q E s := by
  cases r with
  | none =>
    simp only [PyData.shown] at hQ
    exact PySem.P.repr_of_none (hQ s.heap _ _ fun _ _ e => e)
  | bool b =>
    simp only [PyData.shown] at hQ
    exact PySem.P.repr_of_bool (hQ s.heap _ _ fun _ _ e => e)
  | int i t =>
    simp only [PyData.shown] at hQ
    exact PySem.P.repr_of_int (by simpa [PyData.showable] using hs) (hQ s.heap _ _ fun _ _ e => e)
  | str x t =>
    simp only [PyData.shown] at hQ hz
    exact PySem.P.repr_of_str (hQ s.heap _ _ fun _ _ e => e) hz
  | list h1 h2 h3 h4 =>
    rename_i a o vs n xs as'
    have hz' : (listText (PyData.shownAll xs)).length ≤ sizeLine := by simpa only [PyData.shown] using hz
    obtain ⟨bs, hb, hk⟩ := ReprAllK.of_readsAll (prog := prog) (w := w) h4 (by simpa [PyData.showable] using hs) (fun hx => by simp [PyData.hasDict] at hd; rw [hd] at hx; cases hx) (fun t ht => Nat.le_trans (listText_mem_le ht) hz')
    have r0 : Reads s.heap (.ref a) (.list xs) _ := .list h1 h2 h3 h4
    have hna := not_mem_of_deeper r0 (by simp only [PyData.depth]; omega) hb
    simp only [PyData.depth] at hu
    simp only [PyData.shown] at hQ
    refine call_repr_slot (T := "list") (by omega) ⟨_, h1, h2⟩ PySem.F.slot_list_repr.toG ?_
    obtain ⟨l⟩ := vs
    cases l with
    | nil =>
      have h4' : ReadsAll s.heap [] xs _ := h4
      cases h4'
      simp only [PyData.shownAll, listText_nil] at hQ
      exact call_list_repr_empty ⟨_, h1, h2⟩ h1 h3 ⟨_, _, rfl, hQ s.heap _ _ fun _ _ e => e⟩
    | cons y l =>
      exact call_list_reprK h1 h2 h3 hna (by simpa using hk.length_eq) (fun i y e => hk.item i y (by simpa using e)) (by exact hg) (fun b _ => Clear.nil b) (by show A.units + 1 + _ < _; omega) (fun _ _ e => e) (fun h' u tk k => ⟨_, _, rfl, hQ h' tk u k⟩) hz'
  | tuple h1 h2 h3 h4 =>
    rename_i a o vs n xs
    have hz' : (tupleText (PyData.shownAll xs)).length ≤ sizeLine := by simpa only [PyData.shown] using hz
    obtain ⟨bs, hb, hk⟩ := ReprAllK.of_readsAll (prog := prog) (w := w) h4 (by simpa [PyData.showable] using hs) (fun hx => by simp [PyData.hasDict] at hd; rw [hd] at hx; cases hx) (fun t ht => Nat.le_trans (tupleText_mem_le ht) hz')
    have r0 : Reads s.heap (.ref a) (.tuple xs) _ := .tuple h1 h2 h3 h4
    have hna := not_mem_of_deeper r0 (by simp only [PyData.depth]; omega) hb
    simp only [PyData.depth] at hu
    simp only [PyData.shown] at hQ
    refine call_repr_slot (T := "tuple") (by omega) ⟨_, h1, h2⟩ PySem.F.slot_tuple_repr ?_
    exact call_tuple_reprK h1 h2 h3 hna hk (by exact hg) (fun b _ => Clear.nil b) (by show A.units + 1 + _ < _; omega) (fun _ _ e => e) (fun h' u tk k => ⟨_, _, rfl, hQ h' tk u k⟩) hz'
  | dict h1 h2 h3 h4 h5 => simp [PyData.hasDict] at hd
/-! ### a bound of its length -/
mutual
def siz : D → Nat
  | .non => 4
  | .bl _ => 5
  | .int i => i.natAbs.log2 + 2
  | .str x => (reprText x).length
  | .tup ds => sizs ds + 4
  | .lst ds => sizs ds + 4
  | _ => 0
def sizs : List D → Nat
  | [] => 0
  | d :: ds => siz d + 2 + sizs ds
end
mutual
def shw : D → Bool
  | .int i => decide (i.natAbs.log2 < 1920)
  | .tup ds => shws ds
  | .lst ds => shws ds
  | _ => true
def shws : List D → Bool
  | [] => true
  | d :: ds => shw d && shws ds
end
theorem textFrom_le : ∀ (ts : List Str) (k : Nat) (acc : Str), (textFrom k acc ts).length ≤ acc.length + piled ts
  | [], k, acc => by show acc.length ≤ _; omega
  | t :: ts, k, acc => by
    have h := textFrom_le ts (k + 1) (acc ++ (if k > 0 then ", " else "" : String) ++ t)
    rw [strLen_append, strLen_append] at h
    have h2 : (((if k > 0 then ", " else "" : String) : Str)).length ≤ 2 := by split <;> decide
    rw [piled_cons]
    show (textFrom (k + 1) _ ts).length ≤ _
    omega
theorem listText_le (ts : List Str) : (listText ts).length ≤ piled ts + 2 := by
  have h := textFrom_le ts 0 "["
  have e1 : (("[" : String) : Str).length = 1 := rfl
  have e2 : (("]" : String) : Str).length = 1 := rfl
  unfold listText
  rw [strLen_append, e2]
  rw [e1] at h
  omega
theorem tupleText_le (ts : List Str) : (tupleText ts).length ≤ piled ts + 3 := by
  unfold tupleText
  rw [strLen_append, strLen_append]
  have e1 : ((("(" : String) : Str)).length = 1 := rfl
  have e3 : (((if ts.length == 1 then ",)" else ")" : String) : Str)).length ≤ 2 := by split <;> decide
  have e2 : (Str.join ", " ts).length ≤ piled ts := by
    by_cases h : ts = []
    · subst h; exact Nat.le_refl _
    · have := join_length_add ts h
      omega
  rw [e1]
  omega
mutual
theorem siz_ok : ∀ {d : D} {n : Nat}, okd d n = true → shw d = true → (toPd d).shown.length ≤ siz d ∧ (toPd d).showable = true ∧ (toPd d).hasDict = false
  | .non, _, _, _ => ⟨by simp only [toPd, PyData.shown, siz]; decide, by simp [toPd, PyData.showable], by simp [toPd, PyData.hasDict]⟩
  | .bl b, _, _, _ => ⟨by cases b <;> (simp only [toPd, PyData.shown, siz]; decide), by simp [toPd, PyData.showable], by simp [toPd, PyData.hasDict]⟩
  | .int i, _, _, s => by
    simp only [shw, decide_eq_true_eq] at s
    refine ⟨?_, by simp [toPd, PyData.showable, s], by simp [toPd, PyData.hasDict]⟩
    have := int_text_length_le (a := i) (k := i.natAbs.log2 + 1) (Nat.succ_pos _) (Nat.lt_succ_self _)
    simp only [toPd, PyData.shown, siz]
    rw [PySem.ofString_length]
    omega
  | .str x, _, _, _ => ⟨by simp only [toPd, PyData.shown, siz]; exact Nat.le_refl _, by simp [toPd, PyData.showable], by simp [toPd, PyData.hasDict]⟩
  | .tup ds, n, o, s => by
    simp only [okd, Bool.and_eq_true] at o
    simp only [shw] at s
    obtain ⟨h1, h2, h3⟩ := sizs_ok o.2 s
    refine ⟨?_, by simp [toPd, PyData.showable, h2], by simp [toPd, PyData.hasDict, h3]⟩
    simp only [toPd, PyData.shown, siz]
    have := tupleText_le (PyData.shownAll (toPds ds))
    omega
  | .lst ds, n, o, s => by
    simp only [okd, Bool.and_eq_true] at o
    simp only [shw] at s
    obtain ⟨h1, h2, h3⟩ := sizs_ok o.2 s
    refine ⟨?_, by simp [toPd, PyData.showable, h2], by simp [toPd, PyData.hasDict, h3]⟩
    simp only [toPd, PyData.shown, siz]
    have := listText_le (PyData.shownAll (toPds ds))
    omega
  | .ob _ _, _, o, _ => by simp [okd] at o
  | .g _, _, o, _ => by simp [okd] at o
  | .sc _, _, o, _ => by simp [okd] at o
  | .cl _, _, o, _ => by simp [okd] at o
theorem sizs_ok : ∀ {ds : List D} {n : Nat}, okds ds n = true → shws ds = true → piled (PyData.shownAll (toPds ds)) ≤ sizs ds ∧ PyData.showableAll (toPds ds) = true ∧ PyData.hasDictAll (toPds ds) = false
  | [], _, _, _ => ⟨by simp [toPds, PyData.shownAll, piled, sizs], by simp [toPds, PyData.showableAll], by simp [toPds, PyData.hasDictAll]⟩
  | d :: ds, n, o, s => by
    simp only [okds, Bool.and_eq_true] at o
    simp only [shws, Bool.and_eq_true] at s
    obtain ⟨p1, p2, p3⟩ := siz_ok o.1 s.1
    obtain ⟨q1, q2, q3⟩ := sizs_ok o.2 s.2
    refine ⟨?_, by simp [toPds, PyData.showableAll, p2, q2], by simp [toPds, PyData.hasDictAll, p3, q3]⟩
    simp only [toPds, PyData.shownAll, piled_cons, sizs]
    omega
end
/-! ### data with dicts of one text key -/
mutual
def toPr : D → PyData
  | .tup ds => .tuple (toPrs ds)
  | .lst ds => .list (toPrs ds)
  | .da ds => .dict (toPrk ds)
  | d => toPd d
def toPrs : List D → List PyData
  | [] => []
  | d :: ds => toPr d :: toPrs ds
def toPrk : List D → List (PyData × PyData)
  | [] => []
  | d :: ds => (.str "a", toPr d) :: toPrk ds
end
mutual
def okr : D → Nat → Bool
  | .tup ds, n => decide (0 < n) && okrs ds (n - 1)
  | .lst ds, n => decide (0 < n) && okrs ds (n - 1)
  | .da ds, n => decide (0 < n) && okrs ds (n - 1)
  | .non, _ => true
  | .bl _, _ => true
  | .int i, _ => decide (i.natAbs.log2 < 1920)
  | .str x, _ => true
  | _, _ => false
def okrs : List D → Nat → Bool
  | [], _ => true
  | d :: ds, n => okr d n && okrs ds n
end
def Rk (prog : Program) (w : World) (h : Heap) (u : Value) (d : PyData) (n : Nat) : Prop := ∃ as, Reads h u d as ∧ d.depth ≤ n ∧ (d.shown.length ≤ sizeLine → ∃ bs, ReadAtMost h d.depth bs ∧ ReprK prog w bs h d.depth u d.shown)
def RkAll (prog : Program) (w : World) (h : Heap) (us : List Value) (ds : List PyData) (n : Nat) : Prop := ∃ as, ReadsAll h us ds as ∧ PyData.depthAll ds ≤ n ∧ ((∀ t ∈ PyData.shownAll ds, t.length ≤ sizeLine) → ∃ bs, ReadAtMost h (PyData.depthAll ds) bs ∧ ReprAllK prog w bs h (PyData.depthAll ds) us (PyData.shownAll ds))
section
variable {prog : Program} {w : World} {h : Heap}
theorem Rk.flat {u : Value} {d : PyData} {n : Nat} (r : Reads h u d []) (hd : d.depth = 0) (hs : d.shown.length ≤ sizeLine → ReprIs prog w u d.shown) : Rk prog w h u d n := ⟨_, r, by omega, fun z => ⟨[], fun _ q => (nomatch q), .of_is (hs z) _ _ _⟩⟩
theorem RkAll.nil {n : Nat} : RkAll prog w h [] [] n := ⟨_, .nil, by simp [PyData.depthAll], fun _ => ⟨[], fun _ q => (nomatch q), by simp only [PyData.shownAll]; exact .nil⟩⟩
theorem RkAll.cons {u : Value} {us : List Value} {d : PyData} {ds : List PyData} {n : Nat} (a : Rk prog w h u d n) (b : RkAll prog w h us ds n) : RkAll prog w h (u :: us) (d :: ds) n := by
  obtain ⟨as, r1, l1, k1⟩ := a
  obtain ⟨bs, r2, l2, k2⟩ := b
  refine ⟨_, .cons r1 r2, by simp only [PyData.depthAll]; omega, fun z => ?_⟩
  obtain ⟨c1, q1, w1⟩ := k1 (z _ (by simp only [PyData.shownAll]; exact List.mem_cons_self ..))
  obtain ⟨c2, q2, w2⟩ := k2 fun t ht => z t (by simp only [PyData.shownAll]; exact List.mem_cons_of_mem _ ht)
  refine ⟨c1 ++ c2, ?_, ?_⟩
  · simp only [PyData.depthAll]
    exact (q1.mono (Nat.le_max_left _ _)).append (q2.mono (Nat.le_max_right _ _))
  · simp only [PyData.depthAll, PyData.shownAll]
    exact .cons ((w1.more fun b hb => List.mem_append_left _ hb).level_le (Nat.le_max_left _ _)) (w2.more_le (fun b hb => List.mem_append_right _ hb) (Nat.le_max_right _ _))
theorem Rk.list {a : Addr} {o : Obj} {vs : Array Value} {m n : Nat} {ds : List PyData} (h1 : h.get? a = some o) (h2 : o.cls = .type "list") (h3 : o.data = .seq vs m) (r : RkAll prog w h vs.toList ds n) : Rk prog w h (.ref a) (.list ds) (n + 1) := by
  obtain ⟨as, r1, l1, k1⟩ := r
  have r : Reads h (.ref a) (.list ds) _ := .list h1 h2 h3 r1
  refine ⟨_, r, by simp only [PyData.depth]; omega, fun z => ?_⟩
  have z' : (listText (PyData.shownAll ds)).length ≤ sizeLine := by simpa only [PyData.shown] using z
  obtain ⟨bs, hb, hk⟩ := k1 fun t ht => Nat.le_trans (listText_mem_le ht) z'
  refine ⟨a :: bs, ReadAtMost.cons r (by simp only [PyData.depth]; omega) hb, ?_⟩
  simp only [PyData.depth, PyData.shown]
  obtain ⟨l⟩ := vs
  cases l with
  | nil =>
    have r1' : ReadsAll h [] ds _ := r1
    cases r1'
    simp only [PyData.shownAll, listText_nil]
    exact ReprK.listEmpty h1 h2 h3
  | cons x l => exact ReprK.list h1 h2 h3 (not_mem_of_deeper r (by simp only [PyData.depth]; omega) hb) (by simpa using hk.length_eq) (fun i y e => hk.item i y (by simpa using e))
theorem Rk.tuple {a : Addr} {o : Obj} {vs : Array Value} {m n : Nat} {ds : List PyData} (h1 : h.get? a = some o) (h2 : o.cls = .type "tuple") (h3 : o.data = .seq vs m) (r : RkAll prog w h vs.toList ds n) : Rk prog w h (.ref a) (.tuple ds) (n + 1) := by
  obtain ⟨as, r1, l1, k1⟩ := r
  have r : Reads h (.ref a) (.tuple ds) _ := .tuple h1 h2 h3 r1
  refine ⟨_, r, by simp only [PyData.depth]; omega, fun z => ?_⟩
  have z' : (tupleText (PyData.shownAll ds)).length ≤ sizeLine := by simpa only [PyData.shown] using z
  obtain ⟨bs, hb, hk⟩ := k1 fun t ht => Nat.le_trans (tupleText_mem_le ht) z'
  refine ⟨a :: bs, ReadAtMost.cons r (by simp only [PyData.depth]; omega) hb, ?_⟩
  simp only [PyData.depth, PyData.shown]
  exact ReprK.tuple h1 h2 h3 (not_mem_of_deeper r (by simp only [PyData.depth]; omega) hb) hk
theorem toPrk_keys : ∀ ds : List D, (toPrk ds).map (·.2) = toPrs ds
  | [] => rfl
  | d :: ds => by
    show toPr d :: (toPrk ds).map (·.2) = toPr d :: toPrs ds
    rw [toPrk_keys ds]
theorem Rk.dict {a : Addr} {o : Obj} {es : Array DictEntry} {m n : Nat} {ds : List D} (h1 : h.get? a = some o) (h2 : o.cls = .type "dict") (h3 : o.data = .dict es m) (hsys : (a == sysModules) = false) (hk : RkAll prog w h (es.toList.map (·.key)) ((toPrk ds).map (·.1)) 0)
    (hv : RkAll prog w h (es.toList.map (·.val)) ((toPrk ds).map (·.2)) n) : Rk prog w h (.ref a) (.dict (toPrk ds)) (n + 1) := by
  obtain ⟨as, r1, l1, k1⟩ := hk
  obtain ⟨bs, r2, l2, k2⟩ := hv
  have r : Reads h (.ref a) (.dict (toPrk ds)) _ := .dict h1 h2 h3 r1 r2
  have hd : PyData.depthKv (toPrk ds) ≤ n := by
    have key : ∀ kvs : List (PyData × PyData), PyData.depthAll (kvs.map (·.1)) ≤ n → PyData.depthAll (kvs.map (·.2)) ≤ n → PyData.depthKv kvs ≤ n := by
      intro kvs
      induction kvs with
      | nil => intro _ _; simp [PyData.depthKv]
      | cons p kvs ih =>
        obtain ⟨k, v⟩ := p
        intro q1 q2
        simp only [List.map_cons, PyData.depthAll] at q1 q2
        have := ih (by omega) (by omega)
        simp only [PyData.depthKv]
        omega
    exact key _ (by omega) l2
  refine ⟨_, r, by simp only [PyData.depth]; omega, fun z => ?_⟩
  have z' : (dictText (PyData.shownKv (toPrk ds))).length ≤ sizeLine := by simpa only [PyData.shown] using z
  obtain ⟨b1, q1, w1⟩ := k1 fun t ht => let ⟨p, hp, hl⟩ := PyData.shownKv_key_le (toPrk ds) t ht; Nat.le_trans hl (Nat.le_trans (dictText_mem_le hp) z')
  obtain ⟨b2, q2, w2⟩ := k2 fun t ht => let ⟨p, hp, hl⟩ := PyData.shownKv_val_le (toPrk ds) t ht; Nat.le_trans hl (Nat.le_trans (dictText_mem_le hp) z')
  have hb : ReadAtMost h (PyData.depthKv (toPrk ds)) (b1 ++ b2) := (q1.mono (PyData.depthAll_keys_le _)).append (q2.mono (PyData.depthAll_vals_le _))
  refine ⟨a :: (b1 ++ b2), ReadAtMost.cons r (by simp only [PyData.depth]; omega) hb, ?_⟩
  simp only [PyData.depth, PyData.shown, PyData.shownKv_eq]
  exact ReprK.dict h1 h2 h3 hsys (not_mem_of_deeper r (by simp only [PyData.depth]; omega) hb) (ReprEntriesK.of_two es.toList _ _
    (w1.more_le (fun b hb => List.mem_append_left _ hb) (PyData.depthAll_keys_le _)) (w2.more_le (fun b hb => List.mem_append_right _ hb) (PyData.depthAll_vals_le _)))
end
section
variable {X : Cx} {pins : List (Addr × Obj)} {σ : L2.St} {s : Shared} {W : Wd} {F : Fb} {H : Hp}
theorem rk_keys {h : Heap} {P : Program} {w : World} : ∀ {ds : List D} {es : List DictEntry} {kvs : List (Key × Value)} {vs : List V}, Pairs (mixKind P w) es kvs → KV (vs.map dka) kvs → vs.length = ds.length →
    RkAll P w h (es.map (·.key)) ((toPrk ds).map (·.1)) 0 ∧ Vals vs (es.map (·.val))
  | ds, _, _, vs, .nil, kv, hl => by
    cases vs with
    | nil =>
      cases ds with
      | nil => exact ⟨.nil, .nil⟩
      | cons _ _ => cases hl
    | cons _ _ => cases kv
  | ds, _, _, vs, .cons hk hv hp, kv, hl => by
    cases vs with
    | nil => cases kv
    | cons v vs =>
      cases ds with
      | nil => cases hl
      | cons d ds =>
        cases kv with
        | cons a b =>
          obtain ⟨a1, a2⟩ := a
          obtain ⟨i1, i2⟩ := rk_keys (h := h) (ds := ds) hp b (Nat.succ.inj hl)
          rename_i e kv0 es0 kvs0
          have hk : keyIs (Sum.inr "a") e.key = true := by
            have a1 : (Sum.inr "a" : Key) = kv0.1 := a1
            rw [a1]
            exact hk
          obtain ⟨t, ht⟩ : ∃ t, e.key = Value.str "a" t := by
            rcases keyIs_shape hk with ⟨i, t, e1, _⟩ | ⟨x, t, e1, e2⟩
            · cases e1
            · cases e1
              exact ⟨t, e2⟩
          refine ⟨RkAll.cons ?_ i1, .cons (by show L2.RelV v e.val; rw [hv]; exact a2) i2⟩
          show Rk P w h e.key _ 0
          rw [ht]
          exact Rk.flat (.str "a" t) (by simp [PyData.depth]) fun z => by
            simp only [PyData.shown] at z ⊢
            exact ReprIs.str "a" t z
mutual
theorem rk_of (I : Inv X pins σ H s) (hK : X.K = W.K) : ∀ {d : D} {v : V} {u : Value} {n : Nat}, Look W F H d v → okr d n = true → L2.RelV v u → Rk X.prog X.w s.heap u (toPr d) n
  | .non, _, u, n, h, _, r => by
    cases (show _ = V.non from h)
    cases (show u = Value.none from r)
    exact Rk.flat .none (by simp [toPr, toPd, PyData.depth]) fun _ => by simp only [toPr, toPd, PyData.shown]; exact ReprIs.none
  | .bl b, _, u, n, h, _, r => by
    cases (show _ = V.bl b from h)
    cases (show u = Value.bool b from r)
    exact Rk.flat (.bool b) (by simp [toPr, toPd, PyData.depth]) fun _ => by simp only [toPr, toPd, PyData.shown]; exact ReprIs.bool b
  | .int i, _, u, n, h, o, r => by
    cases (show _ = V.int i from h)
    obtain ⟨t, rfl⟩ := (show ∃ t, u = Value.int i t from r)
    exact Rk.flat (.int i t) (by simp [toPr, toPd, PyData.depth]) fun _ => by simp only [toPr, toPd, PyData.shown]; exact ReprIs.int t (of_decide_eq_true o)
  | .str x, _, u, n, h, _, r => by
    cases (show _ = V.str x from h)
    obtain ⟨t, rfl⟩ := (show ∃ t, u = Value.str x t from r)
    exact Rk.flat (.str x t) (by simp [toPr, toPd, PyData.depth]) fun z => by
      simp only [toPr, toPd, PyData.shown] at z ⊢
      exact ReprIs.str x t z
  | .tup ds, _, u, n, h, o, r => by
    obtain ⟨a, vs, rfl, t, rl⟩ := h
    cases (show u = Value.ref a from r)
    simp only [okr, Bool.and_eq_true, decide_eq_true_eq] at o
    obtain ⟨its, rv, ⟨ob, ho, hc, m, hd⟩, _⟩ := I.tuple (by rw [hK]; exact t.seq)
    have := Rk.tuple ho hc hd (rks_of I hK rl o.2 (by simpa using rv))
    rw [show n - 1 + 1 = n by omega] at this
    exact this
  | .lst ds, _, u, n, h, o, r => by
    obtain ⟨a, vs, rfl, t, _, rl⟩ := h
    cases (show u = Value.ref a from r)
    simp only [okr, Bool.and_eq_true, decide_eq_true_eq] at o
    obtain ⟨its, rv, ⟨ob, m, ho, hc, _, hd⟩, _⟩ := I.list (.inl (.inl t))
    have := Rk.list ho hc hd (rks_of I hK rl o.2 (by simpa using rv))
    rw [show n - 1 + 1 = n by omega] at this
    exact this
  | .da ds, _, u, n, h, o, r => by
    obtain ⟨a, vs, rfl, t, _, rl⟩ := h
    cases (show u = Value.ref a from r)
    simp only [okr, Bool.and_eq_true, decide_eq_true_eq] at o
    obtain ⟨_, hsys, kvs, kv, ob, es, ep, ho, hx, hd, _, hp, _⟩ := dk_rd I.hok t
    obtain ⟨k1, k2⟩ := rk_keys (h := s.heap) (ds := ds) hp kv rl.length.symm
    have := Rk.dict ho hx.1 hd hsys k1 (by rw [toPrk_keys]; exact rks_of I hK rl o.2 k2)
    rw [show n - 1 + 1 = n by omega] at this
    exact this
  | .ob _ _, _, _, _, _, o, _ => by simp [okr] at o
  | .g _, _, _, _, _, o, _ => by simp [okr] at o
  | .sc _, _, _, _, _, o, _ => by simp [okr] at o
  | .cl _, _, _, _, _, o, _ => by simp [okr] at o
  | .dct _, _, _, _, _, o, _ => by simp [okr] at o
  | .exc _ _, _, _, _, _, o, _ => by simp [okr] at o
theorem rks_of (I : Inv X pins σ H s) (hK : X.K = W.K) : ∀ {ds : List D} {vs : List V} {us : List Value} {n : Nat}, RepL W F H ds vs → okrs ds n = true → Vals vs us → RkAll X.prog X.w s.heap us (toPrs ds) n
  | [], _, _, n, h, _, r => by
    cases (show _ = [] from h)
    cases r
    exact .nil
  | d :: ds, _, _, n, h, o, r => by
    obtain ⟨v, q, rfl, h1, h2⟩ := h
    simp only [okrs, Bool.and_eq_true] at o
    cases r with
    | cons r1 r2 => exact .cons (rk_of I hK h1.look o.1 r1) (rks_of I hK h2 o.2 r2)
end
end
theorem call_rk {X : Cx} {pins : List (Addr × Obj)} {σ : L2.St} {s : Shared} {W : Wd} {F : Fb} {H : Hp} {d : D} {v : V} {u : Value} {E : Value → Shared → Prop} {Q : Value → Shared → Prop} (I : Inv X pins σ H s) (hK : X.K = W.K) (hL : Look W F H d v) (ho : okr d 60 = true) (r : L2.RelV v u)
    (hz : (toPr d).shown.length ≤ sizeLine) (hg : X.A.guards = some []) (hu : X.A.units + 64 < cLine) (hQ : ∀ h' tk t, (∀ b o, s.heap.get? b = some o → h'.get? b = some o) → Q (.str (toPr d).shown t) { s with heap := h', toks := tk }) :
    wpAny (model X.prog X.w) X.A (call (.builtin "repr") [u]) Q E s := by
  cases d with
  | non =>
    cases (show v = V.non from hL)
    cases (show u = Value.none from r)
    simp only [toPr, toPd, PyData.shown] at hQ
    exact PySem.P.repr_of_none (hQ s.heap _ _ fun _ _ e => e)
  | bl b =>
    cases (show v = V.bl b from hL)
    cases (show u = Value.bool b from r)
    simp only [toPr, toPd, PyData.shown] at hQ
    exact PySem.P.repr_of_bool (hQ s.heap _ _ fun _ _ e => e)
  | int i =>
    cases (show v = V.int i from hL)
    obtain ⟨t, rfl⟩ := (show ∃ t, u = Value.int i t from r)
    simp only [toPr, toPd, PyData.shown] at hQ
    exact PySem.P.repr_of_int (of_decide_eq_true ho) (hQ s.heap _ _ fun _ _ e => e)
  | str x =>
    cases (show v = V.str x from hL)
    obtain ⟨t, rfl⟩ := (show ∃ t, u = Value.str x t from r)
    simp only [toPr, toPd, PyData.shown] at hQ hz
    exact PySem.P.repr_of_str (hQ s.heap _ _ fun _ _ e => e) hz
  | tup ds =>
    obtain ⟨a, vs, rfl, t, rl⟩ := hL
    cases (show u = Value.ref a from r)
    simp only [okr, Bool.and_eq_true, decide_eq_true_eq] at ho
    obtain ⟨its, rv, ⟨ob, h1, h2, m, h3⟩, _⟩ := I.tuple (by rw [hK]; exact t.seq)
    obtain ⟨as, r1, l1, k1⟩ := rks_of (n := 59) I hK rl ho.2 rv
    have rr : Reads s.heap (.ref a) (.tuple (toPrs ds)) _ := .tuple h1 h2 h3 (by simpa using r1)
    have hz' : (tupleText (PyData.shownAll (toPrs ds))).length ≤ sizeLine := by simpa only [toPr, PyData.shown] using hz
    obtain ⟨bs, hb, hk⟩ := k1 fun t ht => Nat.le_trans (tupleText_mem_le ht) hz'
    simp only [toPr, PyData.shown] at hQ
    refine call_repr_slot (T := "tuple") (by omega) ⟨_, h1, h2⟩ PySem.F.slot_tuple_repr ?_
    exact call_tuple_reprK h1 h2 h3 (not_mem_of_deeper rr (by simp only [PyData.depth]; omega) hb) (by simpa using hk) (by exact hg) (fun b _ => Clear.nil b) (by show X.A.units + 1 + _ < _; omega) (fun _ _ e => e) (fun h' u tk k => ⟨_, _, rfl, hQ h' tk u k⟩) hz'
  | lst ds =>
    obtain ⟨a, vs, rfl, t, _, rl⟩ := hL
    cases (show u = Value.ref a from r)
    simp only [okr, Bool.and_eq_true, decide_eq_true_eq] at ho
    obtain ⟨its, rv, ⟨ob, m, h1, h2, _, h3⟩, _⟩ := I.list (.inl (.inl t))
    obtain ⟨as, r1, l1, k1⟩ := rks_of (n := 59) I hK rl ho.2 rv
    have rr : Reads s.heap (.ref a) (.list (toPrs ds)) _ := .list h1 h2 h3 (by simpa using r1)
    have hz' : (listText (PyData.shownAll (toPrs ds))).length ≤ sizeLine := by simpa only [toPr, PyData.shown] using hz
    obtain ⟨bs, hb, hk⟩ := k1 fun t ht => Nat.le_trans (listText_mem_le ht) hz'
    simp only [toPr, PyData.shown] at hQ
    refine call_repr_slot (T := "list") (by omega) ⟨_, h1, h2⟩ PySem.F.slot_list_repr.toG ?_
    cases its with
    | nil =>
      have e0 : toPrs ds = [] := by
        generalize toPrs ds = ys at r1
        cases r1
        rfl
      rw [e0] at hQ
      simp only [PyData.shownAll, listText_nil] at hQ
      exact call_list_repr_empty ⟨_, h1, h2⟩ h1 h3 ⟨_, _, rfl, hQ s.heap _ _ fun _ _ e => e⟩
    | cons y l =>
      exact call_list_reprK h1 h2 h3 (not_mem_of_deeper rr (by simp only [PyData.depth]; omega) hb) (by simpa using hk.length_eq) (fun i y e => hk.item i y (by simpa using e)) (by exact hg) (fun b _ => Clear.nil b) (by show X.A.units + 1 + _ < _; omega) (fun _ _ e => e) (fun h' u tk k => ⟨_, _, rfl, hQ h' tk u k⟩) hz'
  | da ds =>
    obtain ⟨a, vs, rfl, t, _, rl⟩ := hL
    cases (show u = Value.ref a from r)
    simp only [okr, Bool.and_eq_true, decide_eq_true_eq] at ho
    obtain ⟨_, hsys, kvs, kv, ob, es, ep, h1, hx, h3, _, hp, _⟩ := dk_rd I.hok t
    obtain ⟨q1, q2⟩ := rk_keys (h := s.heap) (ds := ds) hp kv rl.length.symm
    obtain ⟨as, r1, l1, k1⟩ := q1
    obtain ⟨bs, r2, l2, k2⟩ := rks_of (n := 59) I hK rl ho.2 q2
    rw [← toPrk_keys] at r2 l2 k2
    have rr : Reads s.heap (.ref a) (.dict (toPrk ds)) _ := .dict h1 hx.1 h3 r1 r2
    have hz' : (dictText (PyData.shownKv (toPrk ds))).length ≤ sizeLine := by simpa only [toPr, PyData.shown] using hz
    obtain ⟨b1, p1, w1⟩ := k1 fun t ht => let ⟨p, hp, hl⟩ := PyData.shownKv_key_le (toPrk ds) t ht; Nat.le_trans hl (Nat.le_trans (dictText_mem_le hp) hz')
    obtain ⟨b2, p2, w2⟩ := k2 fun t ht => let ⟨p, hp, hl⟩ := PyData.shownKv_val_le (toPrk ds) t ht; Nat.le_trans hl (Nat.le_trans (dictText_mem_le hp) hz')
    have hb : ReadAtMost s.heap (PyData.depthKv (toPrk ds)) (b1 ++ b2) := (p1.mono (PyData.depthAll_keys_le _)).append (p2.mono (PyData.depthAll_vals_le _))
    have hd : PyData.depthKv (toPrk ds) ≤ 59 := by
      have key : ∀ kvs : List (PyData × PyData), PyData.depthAll (kvs.map (·.1)) ≤ 59 → PyData.depthAll (kvs.map (·.2)) ≤ 59 → PyData.depthKv kvs ≤ 59 := by
        intro kvs
        induction kvs with
        | nil => intro _ _; simp [PyData.depthKv]
        | cons p kvs ih =>
          obtain ⟨k, v⟩ := p
          intro q1 q2
          simp only [List.map_cons, PyData.depthAll] at q1 q2
          have := ih (by omega) (by omega)
          simp only [PyData.depthKv]
          omega
      exact key _ (by omega) l2
    simp only [toPr, PyData.shown, PyData.shownKv_eq] at hQ
    refine call_repr_slot (T := "dict") (by omega) ⟨_, h1, hx.1⟩ PySem.F.slot_dict_repr ?_
    exact call_dict_reprK h1 hx.1 h3 hsys (not_mem_of_deeper rr (by simp only [PyData.depth]; omega) hb) (ReprEntriesK.of_two es.toList _ _ (w1.more_le (fun b hb => List.mem_append_left _ hb) (PyData.depthAll_keys_le _)) (w2.more_le (fun b hb => List.mem_append_right _ hb) (PyData.depthAll_vals_le _)))
      (by exact hg) (fun b _ => Clear.nil b) (by show X.A.units + 1 + _ < _; omega) (fun _ _ e => e) (fun h' u tk k => ⟨_, _, rfl, hQ h' tk u k⟩) (by rw [← PyData.shownKv_eq]; exact hz')
  | ob _ _ => simp [okr] at ho
  | g _ => simp [okr] at ho
  | sc _ => simp [okr] at ho
  | cl _ => simp [okr] at ho
  | dct _ => simp [okr] at ho
  | exc _ _ => simp [okr] at ho
/-! ### a bound of its length -/
mutual
def szr : D → Nat
  | .tup ds => szrs ds + 4
  | .lst ds => szrs ds + 4
  | .da ds => szrs ds + 4
  | .non => 4
  | .bl _ => 5
  | .int i => i.natAbs.log2 + 2
  | .str x => (reprText x).length
  | _ => 0
def szrs : List D → Nat
  | [] => 0
  | d :: ds => szr d + 7 + szrs ds
end
theorem dictText_le (ts : List Str) : (dictText ts).length ≤ piled ts + 2 := by
  unfold dictText
  rw [strLen_append, strLen_append]
  have e1 : ((("{" : String) : Str)).length = 1 := rfl
  have e3 : ((("}" : String) : Str)).length = 1 := rfl
  have e2 : (Str.join ", " ts).length ≤ piled ts := by
    by_cases h : ts = []
    · subst h; exact Nat.le_refl _
    · have := join_length_add ts h
      omega
  have e1' : (("{" : Str)).length = 1 := rfl
  have e3' : (("}" : Str)).length = 1 := rfl
  omega
mutual
theorem szr_ok : ∀ {d : D} {n : Nat}, okr d n = true → (toPr d).shown.length ≤ szr d
  | .non, _, _ => by simp only [toPr, toPd, PyData.shown, szr]; decide
  | .bl b, _, _ => by cases b <;> (simp only [toPr, toPd, PyData.shown, szr]; decide)
  | .int i, _, _ => by
    have := int_text_length_le (a := i) (k := i.natAbs.log2 + 1) (Nat.succ_pos _) (Nat.lt_succ_self _)
    simp only [toPr, toPd, PyData.shown, szr]
    rw [PySem.ofString_length]
    omega
  | .str x, _, _ => by simp only [toPr, toPd, PyData.shown, szr]; exact Nat.le_refl _
  | .tup ds, n, o => by
    simp only [okr, Bool.and_eq_true] at o
    have h := (szrs_ok o.2).1
    simp only [toPr, PyData.shown, szr]
    have := tupleText_le (PyData.shownAll (toPrs ds))
    omega
  | .lst ds, n, o => by
    simp only [okr, Bool.and_eq_true] at o
    have h := (szrs_ok o.2).1
    simp only [toPr, PyData.shown, szr]
    have := listText_le (PyData.shownAll (toPrs ds))
    omega
  | .da ds, n, o => by
    simp only [okr, Bool.and_eq_true] at o
    have h := (szrs_ok o.2).2
    simp only [toPr, PyData.shown, szr]
    have := dictText_le (PyData.shownKv (toPrk ds))
    omega
  | .ob _ _, _, o => by simp [okr] at o
  | .g _, _, o => by simp [okr] at o
  | .sc _, _, o => by simp [okr] at o
  | .cl _, _, o => by simp [okr] at o
  | .dct _, _, o => by simp [okr] at o
  | .exc _ _, _, o => by simp [okr] at o
theorem szrs_ok : ∀ {ds : List D} {n : Nat}, okrs ds n = true → piled (PyData.shownAll (toPrs ds)) ≤ szrs ds ∧ piled (PyData.shownKv (toPrk ds)) ≤ szrs ds
  | [], _, _ => by simp [toPrs, toPrk, PyData.shownAll, PyData.shownKv, piled, szrs]
  | d :: ds, n, o => by
    simp only [okrs, Bool.and_eq_true] at o
    have h1 := szr_ok o.1
    obtain ⟨h2, h3⟩ := szrs_ok o.2
    refine ⟨?_, ?_⟩
    · simp only [toPrs, PyData.shownAll, piled_cons, szrs]
      omega
    · simp only [toPrk, PyData.shownKv, piled_cons, szrs]
      rw [strLen_append, strLen_append]
      have e1 : (PyData.shown (.str "a")).length = 3 := by simp only [PyData.shown]; decide +kernel
      have e2 : ((": " : Str)).length = 2 := rfl
      omega
end
/-- the text of its repr -/
def rpT (d : D) : Str := if okd d 60 = true ∧ shw d = true ∧ siz d ≤ 16777216 then (toPd d).shown else (toPr d).shown
def rprF : List D → List Cell → Option D := fun ds _ => match ds with
  | [d] => if okd d 60 = true ∧ shw d = true ∧ siz d ≤ 16777216 then some (.str (toPd d).shown) else if okr d 60 = true ∧ szr d ≤ 16777216 then some (.str (toPr d).shown) else none
  | _ => none
theorem rprF_A {d : D} {g : List Cell} (h1 : okr d 60 = true) (h2 : szr d ≤ 16777216) : rprF [d] g = some (.str (rpT d)) := by
  unfold rprF rpT
  simp only
  split
  · rfl
  · rw [if_pos ⟨h1, h2⟩]
theorem b_repr {W : Wd} {X : Cx} (hK : X.K = W.K) (hG : X.A.guards = some []) (hu : X.A.units + 64 < cLine) : BltOk W X "repr" rprF := by
  refine ⟨fun xs H Q => (∃ x d, xs = [x] ∧ Dp W.K H x d ∧ d.depth ≤ 60 ∧ d.showable = true ∧ d.hasDict = false ∧ d.shown.length ≤ sizeLine ∧ Q (.str d.shown) H) ∨ ∃ x d F, xs = [x] ∧ Look W F H d x ∧ okr d 60 = true ∧ (toPr d).shown.length ≤ sizeLine ∧ Q (.str (toPr d).shown) H, ?_, ?_⟩
  · intro pins s σ H xs us Q I r h
    rcases h with ⟨x, d, rfl, hd, h1, h2, h3, h4, q⟩ | ⟨x, d, F, rfl, hL, h1, h2, q⟩
    · obtain ⟨u, rfl, ru⟩ := vals1 r
      rw [← hK] at hd
      obtain ⟨as, rd⟩ := Dp.reads I d x u hd ru
      exact repr_reads rd h2 h3 hG (by omega) h4 fun h' tk u k => ⟨.str _, H, I.kept k, ⟨_, rfl⟩, q⟩
    · obtain ⟨u, rfl, ru⟩ := vals1 r
      exact call_rk I hK hL h1 ru h2 hG hu fun h' tk u k => ⟨.str _, H, I.kept k, ⟨_, rfl⟩, q⟩
  · intro F H g ds d vs Q c rr e k
    cases ds with
    | nil => cases e
    | cons y ys =>
      cases ys with
      | cons _ _ => cases y <;> cases e
      | nil =>
        obtain ⟨v, rfl, rv⟩ := look1 rr
        simp only [rprF] at e
        split at e
        · rename_i hc
          cases e
          obtain ⟨p1, p2, p3⟩ := dp_of rv hc.1
          obtain ⟨q1, q2, q3⟩ := siz_ok hc.1 hc.2.1
          exact .inl ⟨v, _, rfl, p1, p3, q2, q3, by rw [sizeLine_eq]; exact Nat.le_trans q1 hc.2.2, k H _ (fun _ _ h => h) c (rep_str _)⟩
        · split at e
          · rename_i hc
            cases e
            exact .inr ⟨v, y, F, rfl, rv, hc.1, by rw [sizeLine_eq]; exact Nat.le_trans (szr_ok hc.1) hc.2, k H _ (fun _ _ h => h) c (rep_str _)⟩
          · cases e
end Ev

/-! Ev7: short words for the generated derivations. -/
namespace Ev
open PySem PySem.Spec PyProof.Rows L2
theorem bt_len : bootBuiltins "len" = some (.builtin "len") := by decide +kernel
theorem bt_abs : bootBuiltins "abs" = some (.builtin "abs") := by decide +kernel
theorem bt_max : bootBuiltins "max" = some (.builtin "max") := by decide +kernel
theorem bt_min : bootBuiltins "min" = some (.builtin "min") := by decide +kernel
theorem bt_all : bootBuiltins "all" = some (.builtin "all") := by decide +kernel
theorem bt_repr : bootBuiltins "repr" = some (.builtin "repr") := by decide +kernel
theorem bt_tuple : bootBuiltins "tuple" = some (.type "tuple") := by decide +kernel
section
variable {W : Wd} {E : XK} {X : Cx} {e : Expr} {m : M D}
theorem see (h : PE X e (tM W E m)) : PE X e (tS W E m) := PE.see h
/-- a new list is handed back as a cell -/
def retCell (m : M (List D)) : MS := fun e g => (m e g).toS fun ds g1 => .rt (.g g1.length) (g1 ++ [.lst ds])
theorem es_retCell {a : Expr} {pos : Pos} {mr : M (List D)} (h : PE X a (tF W E mr)) : PS X (.Return (some a) pos) (tMS W E (retCell mr)) := weakS (ps_ret h) fun D0 σ H ⟨F, e, g, S, p⟩ => by
  refine ⟨F, e, g, S, p.toS.mono fun ds g1 F1 H1 x c k q vs nq r => ?_⟩
  have nh : ¬ F1.has q := c.none nq
  have hl : F1.th[F1.th.length]? = none := List.getElem?_eq_none (Nat.le_refl _)
  have up : Up F1 ({ F1 with th := F1.th ++ [q] } : Fb).base H1 (upd H1 q (.lst vs)) := by
    refine ⟨fun a u e n => ⟨keep_new nq a u e, fun z => ?_⟩, [q], rfl⟩
    rcases z with z | z | z
    · exact n (.inl z)
    · cases z
    · rcases List.mem_append.mp z with z | z
      · exact n (.inr (.inr z))
      · rw [List.mem_singleton.mp z, nq] at e; cases e
  refine k { F1 with th := F1.th ++ [q] } (upd H1 q (.lst vs)) (.ref q) ⟨fun a u e _ _ => keep_new nq a u e, fun a u e => ⟨u, keep_new nq a u e⟩, ⟨[q], rfl, fun a ha => by rw [List.mem_singleton.mp ha]; exact nq⟩, rfl, fun a h => .inl h⟩ ?_ ⟨q, ?_, rfl⟩
  · refine ⟨?_, ?_, fun n a y h1 h2 => ?_, fun a z => ?_, fun a ha => ⟨fun z => ?_, fun z => by cases z⟩, fun a z => by cases z⟩
    · show (F1.th ++ [q]).Nodup
      rw [List.nodup_append]
      exact ⟨c.nd, by simp, fun a ha b hb z => nh (.inr (.inr (by rw [← List.mem_singleton.mp hb, ← z]; exact ha)))⟩
    · show (F1.th ++ [q]).length = (g1 ++ [Cell.lst ds]).length
      simp [c.len]
    · have h1' : (F1.th ++ [q])[n]? = some a := h1
      by_cases hn : n < F1.th.length
      · rw [List.getElem?_append_left hn] at h1'
        rw [List.getElem?_append_left (by rw [← c.len]; exact hn)] at h2
        exact (c.cel n a y h1' h2).up up (upd_ne fun z => nh (.inr (.inr (by rw [← z]; exact List.mem_of_getElem? h1'))))
      · rw [List.getElem?_append_right (by omega)] at h1'
        rw [List.getElem?_append_right (by rw [← c.len]; omega)] at h2
        have e1 : a = q := by
          have := List.mem_of_getElem? h1'
          exact List.mem_singleton.mp this
        have e2 : y = .lst ds := by
          have := List.mem_of_getElem? h2
          exact List.mem_singleton.mp this
        subst e1; subst e2
        exact ⟨vs, upd_same, r.up up⟩
    · by_cases ha : a = q
      · exact ⟨_, by rw [ha]; exact upd_same⟩
      · have hF : F1.has a := by
          rcases z with z | z | z
          · exact .inl z
          · cases z
          · rcases List.mem_append.mp z with z | z
            · exact .inr (.inr z)
            · exact absurd (List.mem_singleton.mp z) ha
        obtain ⟨u, e⟩ := c.tr a hF
        exact ⟨u, by rw [upd_ne ha]; exact e⟩
    · rcases List.mem_append.mp ha with h | h
      · exact (c.dj a h).1 z
      · rw [List.mem_singleton.mp h] at z
        exact nh (.inl z)
  · show (F1.th ++ [q])[g1.length]? = some q
    rw [← c.len, List.getElem?_append_right (Nat.le_refl _), Nat.sub_self]; rfl
end
/-- a def of the text as it stands behind the top, with its facts -/
structure Df (K : PySem.W.Frag) (mg : Str → Option Value) (x : Str) (st : Stmt) (ps : List Str) where
  f : Addr
  fd : FuncData
  fn : Fun K x x st f fd
  gl : mg x = some (.ref f)
  bd : Binds K fd ps []
end Ev

/-! Ev8: classes: names of classes as values, static methods, classmethods, objects made, properties; defs with defaults and stars. -/
namespace Ev
open PySem PySem.Spec PyProof.Rows L2
/-- a statement that is not reached -/
def badS : MS := fun _ _ => .bad
theorem es_bad {W : Wd} {E : XK} {X : Cx} {st : Stmt} : PS X st (tMS W E badS) := ⟨fun pins s σ H D I ⟨F, e, g, S, p⟩ => p.elim⟩
/-- a def called by position, where no repr is under way -/
def FnP (P : Program) (w : World) (K : PySem.W.Frag) (mg : Str → Option Value) (base : Heap) (CX : CXT) (k : Nat) (f : Addr) (sp : Sp) : Prop :=
  ∀ (A : Around) (outer : List PySem.Env) (s : Shared) (H : Hp) (us : List Value) (vs : List V) (Q : VK) (E : XK), A.guards = some [] → Room k A → Env0 P w K mg base A outer s H → Vals vs us → sp vs H Q E →
    codeAny (model P w) A (.call (.ref f) ⟨us, []⟩) (CR CX outer P w H s Q E) s
section
variable {P : Program} {w : World} {K : PySem.W.Frag} {mg : Str → Option Value} {base : Heap} {CX : CXT} {j k n : Nat} {f : Addr} {fd : FuncData} {ps : List Str} {sp : Sp} {ds : List Value} {dvs : List V} {W : Wd} {fs : List D → List Cell → R D}
theorem FnP.up (F : FnP P w K mg base CX k f sp) (h : k ≤ j) : FnP P w K mg base CX j f sp := fun A out s H us vs Q E hg hr => F A out s H us vs Q E hg (hr.mono h)
theorem FnG.pos (G : FnG P w K mg base CX k f fd ps sp) (bd : Binds K fd ps ds) (hd : Vals dvs ds) : FnP P w K mg base CX k f (fun vs H Q E => sp (vs ++ dvs) H Q E) := fun A out s H us vs Q E hg hr e0 r hs => by
  have r2 : Vals (vs ++ dvs) (us ++ ds) := r.append hd
  have hl : (us ++ ds).length = ps.length := by rw [← r2.length]; exact G.ar _ _ _ _ hs
  exact G.go A out s H ⟨us, []⟩ (us ++ ds) (vs ++ dvs) Q E hg hr e0 (bd s us (e0.mod.kin.keeps fun b o e => (e0.bs b o e).1) hl) r2 hs
theorem FnG.pos0 (G : FnG P w K mg base CX k f fd ps sp) (bd : Binds K fd ps []) : FnP P w K mg base CX k f sp := fun A out s H us vs Q E hg hr e0 r hs =>
  G.pos (dvs := []) bd .nil A out s H us vs Q E hg hr e0 r (by show sp (vs ++ []) H Q E; rw [List.append_nil]; exact hs)
/-- a def whose last parameters have defaults, called without them -/
theorem FnG.dfl {m : Nat} {dfl : List D} (G : FnG P w K mg base CX k f fd ps (spEv W m fs)) (bd : ∃ ds, Vals dvs ds ∧ Binds K fd ps ds) (hm : n + dfl.length = m) (hr : ∀ F H, RepL W F H dfl dvs) : FnP P w K mg base CX k f (spEv W n fun ds g => fs (ds ++ dfl) g) := by
  obtain ⟨ds, hd, hb⟩ := bd
  refine fun A out s H us vs Q E hg hro e0 r ⟨nu, th, xs, g, c, rr, hl, p⟩ => G.pos hb hd A out s H us vs Q E hg hro e0 r ?_
  exact ⟨nu, th, xs ++ dfl, g, c, rr.append (hr _ _), by rw [List.length_append, hl, hm], p⟩
end
section
variable {W : Wd} {E : XK} {X : Cx} {CX : CXT} {k n c : Nat} {f C p g : Addr} {mc : Value} {fs : List D → List Cell → R D} {x m : Str} {apos pos : Pos} {o e : Expr} {es : List Expr} {mo : M D} {ma : M (List D)} {pl : Sem Bool}
theorem run_fnP {sp : Sp} {pins : List (Addr × Obj)} {σ : L2.St} {H : Hp} {s : Shared} {Q : VK} {us : List Value} {vs : List V} (F : FnP X.prog X.w X.K X.mg X.base CX k f sp) (hg : X.A.guards = some []) (hr : Room k X.A)
    (px : Passes CX X E) (I : Inv X pins σ H s) (r : Vals vs us) (h : sp vs H Q E) : wpAny (model X.prog X.w) X.A (call (.ref f) us) (EP X pins σ Q) X.xe s := by
  refine wpAny_call (codeAny_mono (F X.A X.stack s H us vs Q E hg hr I.env0 r h) fun res s' z => ?_)
  rcases res with er | (u | _ | _ | _)
  · exact px pins σ H s er s' I z
  all_goals first
    | exact I.after z
    | exact z.elim
theorem ev_callP {p1 : Pos} (F : FnP X.prog X.w X.K X.mg X.base CX k f (spEv W n fs)) (hG : X.A.guards = some []) (hr : Room k X.A) (hg : Gl X x) (hm : X.mg x = some (.ref f)) (hk : PySem.W.keepIn X.K (.ref f) = true) (px : Passes CX X E)
    (ha : PA X (e :: es) (tL W E ma)) (hdb : (x == ("__debug__" : Str)) = false := by decide) (he : starEach (e :: es) X.env = (false, eval e X.env) :: starEach es X.env := by rfl) (hpl : (backTo pos (starEach es X.env)).any (·.1) = false := by rfl) :
    PE X (.Call (.Name x p1) (e :: es) [] pos) (tM W E (callM n fs ma)) := by
  refine ⟨fun pins s σ H Q I ⟨F0, en, g, S, q⟩ => wpAny_Call_Name_kw (ld_glob I hg hm ?_ hdb)⟩
  refine PySem.W.callWith_K (h₀ := X.base) I.ok.mod.kin hk (thn (ha.run pos pins s σ H (fun vs H1 => spEv W n fs vs H1 Q E) I ⟨F0, en, g, S, (Post.bind q).mono fun ds g1 F1 H1 x1 c1 k1 vs r => sp_in c1 r k1⟩) fun us s1 ⟨vs, H1, I1, r, q⟩ => ⟨I1.kIn, ?_⟩) he hpl
  exact run_fnP F hG hr px I1 r q
/-! ### static methods, classmethods -/
structure SMet (K : PySem.W.Frag) (C : Addr) (mc : Value) (m : Str) (p g : Addr) : Prop where
  at_ : PySem.W.findCls K (.ref C) mc m = some (.get (.builtin "staticmethod.__get__") (.ref p) .none (.ref C))
  rc : ∃ rest, PySem.W.recIn K p "staticmethod" = some (.ref g :: rest)
  kp : PySem.W.keepIn K (.ref g) = true
theorem getsm_ok {pins : List (Addr × Obj)} {σ : L2.St} {H : Hp} {s : Shared} {A : Around} {E' : Value → Shared → Prop} {Q : Value × List Value → Shared → Prop} (I : Inv X pins σ H s) (r : ClX.CRead X.K C mc) (k : SMet X.K C mc m p g)
    (h : ∀ s', Inv X pins σ H s' → Q (.ref g, []) s') : wpAny (model X.prog X.w) A (getMethod (.ref C) m pl) Q E' s := by
  obtain ⟨rest, hp⟩ := k.rc
  refine PySem.W.method_cls I.kIn r.ga (PySem.W.cls_bind I.kIn r.rd k.at_ (wpAny_call (PySem.W.sm_get (s := { s with toks := s.toks + 1 }) I.kIn hp (PySem.W.handed_on rfl ?_))))
  exact h _ (I.tok _)
/-- the class at c alone -/
def onCl {α : Type} (c : Nat) (mo : M D) (k : M α) : M α := fun e g => (mo e g).bind fun d g1 => match d with
  | .cl c' => if c' = c then k e g1 else .bad
  | _ => .bad
theorem onCl_post {α : Type} {m2 : M α} {F : Fb} {H : Hp} {en : Env} {g : List Cell} {kk : α → List Cell → Fb → Hp → Prop} (h : Post W E F H (onCl c mo m2 en g) kk) :
    Post W E F H (mo en g) fun d g1 F1 H1 => ∀ v, Rep W F1 H1 d v → v = .ref (W.cl c) ∧ Post W E F1 H1 (m2 en g1) kk := by
  refine (Post.bind h).mono fun d g1 F1 H1 x1 c1 k1 v rv => ?_
  cases d with
  | cl c' =>
    by_cases hc : c' = c
    · subst hc
      simp only [↓reduceIte] at k1
      exact ⟨rv, k1⟩
    · simp only [if_neg hc] at k1
      exact k1.elim
  | _ => exact k1.elim
def smM (c n : Nat) (f : List D → List Cell → R D) (mo : M D) (ma : M (List D)) : M D := onCl c mo (callM n f ma)
def cmM (c n : Nat) (f : List D → List Cell → R D) (mo : M D) (ma : M (List D)) : M D := onCl c mo fun e g => (ma e g).bind fun ds g1 => if ds.length + 1 = n then f (.cl c :: ds) g1 else .bad
theorem ev_smeth (ho : PE X o (tM W E mo)) (r : ClX.CRead X.K (W.cl c) mc) (ks : SMet X.K (W.cl c) mc m p g) (F : FnP X.prog X.w X.K X.mg X.base CX k g (spEv W n fs)) (hG : X.A.guards = some []) (hr : Room k X.A) (px : Passes CX X E) (ha : PA X (e :: es) (tL W E ma))
    (hst : starEach (e :: es) X.env = (false, eval e X.env) :: starEach es X.env := by rfl) (hpl : (backTo pos (starEach es X.env)).any (·.1) = false := by rfl)
    (ht : eval (.Call (.Attribute o m apos) (e :: es) [] pos) X.env = (do
      let ov ← eval o X.env
      standAt apos.atName
      let (f, first) ← holding [ov] (getMethod ov m pl)
      callWith pos f first (backTo pos (starEach (e :: es) X.env)) (backToKw pos (keywordEach [] X.env))) := by rfl) :
    PE X (.Call (.Attribute o m apos) (e :: es) [] pos) (tM W E (smM c n fs mo ma)) := by
  refine ⟨fun pins s σ H Q I ⟨F0, en, g0, S, q⟩ => ?_⟩
  have q1 := (onCl_post q).mono fun d g1 F1 H1 x1 c1 k1 v rv => (⟨(k1 v rv).1, F1, en, g1, S.step x1 c1, (Post.bind (k1 v rv).2).mono fun ds g2 F2 H2 x2 c2 k2 vs rr => sp_in c2 rr k2⟩ : v = .ref (W.cl c) ∧ tL W E ma σ H1 fun vs H2 => spEv W n fs vs H2 Q E)
  refine PySem.W.methodCall_KW (pl := pl) (thn (ho.run pins s σ H _ I ⟨F0, en, g0, S, q1⟩) fun u s1 ⟨x, H1, I1, rx, ex, q⟩ => ?_) ht
  subst ex
  obtain rfl : u = Value.ref (W.cl c) := rx
  refine getsm_ok I1 r ks fun s2 I2 => ?_
  refine PySem.W.callWith_K (h₀ := X.base) (first := []) I.ok.mod.kin ks.kp (thn (ha.run pos pins s2 σ H1 _ I2 q) fun us s3 ⟨vs, H2, I3, rv, q2⟩ => ⟨I3.kIn, ?_⟩) hst hpl
  exact run_fnP F hG hr px I3 rv q2
end
section
variable {W : Wd} {E : XK} {X : Cx} {CX : CXT} {k n c : Nat} {f C p g : Addr} {mc : Value} {fs : List D → List Cell → R D} {x m : Str} {apos pos : Pos} {o e : Expr} {es : List Expr} {mo : M D} {ma : M (List D)} {pl : Sem Bool}
theorem run_fnPc {sp : Sp} {pins : List (Addr × Obj)} {σ : L2.St} {H : Hp} {s : Shared} {Q : VK} {us : List Value} {vs : List V} (F : FnP X.prog X.w X.K X.mg X.base CX k f sp) (hg : X.A.guards = some []) (hr : Room k X.A)
    (px : Passes CX X E) (I : Inv X pins σ H s) (r : Vals vs us) (h : sp vs H Q E) : codeAny (model X.prog X.w) X.A (.call (.ref f) ⟨us, []⟩) (fun r s' => match r with | .ok (.ret v) => EP X pins σ Q v s' | .ok _ => False | .error e => X.xe e s') s := by
  refine codeAny_mono (F X.A X.stack s H us vs Q E hg hr I.env0 r h) fun res s' z => ?_
  rcases res with er | (u | _ | _ | _)
  · exact px pins σ H s er s' I z
  all_goals first
    | exact I.after z
    | exact z.elim
theorem ev_cmeth (ho : PE X o (tM W E mo)) (r : ClX.CRead X.K (W.cl c) mc) (ks : ClX.CMet X.K (W.cl c) mc m p g) (F : FnP X.prog X.w X.K X.mg X.base CX k g (spEv W n fs)) (hG : X.A.guards = some []) (hr : Room k X.A) (px : Passes CX X E) (ha : PA X (e :: es) (tL W E ma))
    (hst : starEach (e :: es) X.env = (false, eval e X.env) :: starEach es X.env := by rfl) (hpl : (backTo pos (starEach es X.env)).any (·.1) = false := by rfl)
    (ht : eval (.Call (.Attribute o m apos) (e :: es) [] pos) X.env = (do
      let ov ← eval o X.env
      standAt apos.atName
      let (f, first) ← holding [ov] (getMethod ov m pl)
      callWith pos f first (backTo pos (starEach (e :: es) X.env)) (backToKw pos (keywordEach [] X.env))) := by rfl) :
    PE X (.Call (.Attribute o m apos) (e :: es) [] pos) (tM W E (cmM c n fs mo ma)) := by
  refine ⟨fun pins s σ H Q I ⟨F0, en, g0, S, q⟩ => ?_⟩
  have q1 := (onCl_post q).mono fun d g1 F1 H1 x1 c1 k1 v rv => (⟨(k1 v rv).1, F1, en, g1, S.step x1 c1, (Post.bind (k1 v rv).2).mono fun ds g2 F2 H2 x2 c2 k2 vs rr => by
    have e1 : (if ds.length + 1 = n then fs (.cl c :: ds) g2 else .bad) = (if (D.cl c :: ds).length = n then fs (.cl c :: ds) g2 else .bad) := rfl
    rw [e1] at k2
    exact sp_in (ds := .cl c :: ds) (vs := .ref (W.cl c) :: vs) c2 ⟨_, _, rfl, rfl, rr⟩ k2⟩ : v = .ref (W.cl c) ∧ tL W E ma σ H1 fun vs H2 => spEv W n fs (.ref (W.cl c) :: vs) H2 Q E)
  refine PySem.W.methodCall_KW (pl := pl) (thn (ho.run pins s σ H _ I ⟨F0, en, g0, S, q1⟩) fun u s1 ⟨x, H1, I1, rx, ex, q⟩ => ?_) ht
  subst ex
  obtain rfl : u = Value.ref (W.cl c) := rx
  refine ClX.getmethcm_ok I1 r ks fun s2 I2 => ?_
  refine ClX.callwith_cm I2 (ClX.base_none I1 (Nat.le_refl _)) ks.fi (thn (ha.run pos _ s2 σ H1 _ I2 q) fun us s3 ⟨vs, H2, I3, rv, q2⟩ => ⟨⟨ClX.pin_at I3, I3.kIn⟩, ?_⟩) hst hpl
  exact thn (wpAny_call (PySem.W.method_call (ClX.pin_at I3) (run_fnPc (us := .ref (W.cl c) :: us) (vs := .ref (W.cl c) :: vs) F hG hr px I3 (.cons rfl rv) q2))) fun _ _ y => ClX.unpinE y
/-! ### objects made: their one field is what __init__ works out -/
/-- an __init__'s promise: the object stands at x with no field, no data name it -/
def spIn (W : Wd) (c : Nat) (fs : List D → List Cell → R D) : Sp := fun vs H Q E => ∃ x dx rest nu th ds g, vs = V.ref x :: rest ∧ H x = some (.ins (W.cl c) dx []) ∧ x ∈ nu ∧ Cells W ⟨nu, [], th⟩ H g ∧ RepL W ⟨nu, [], th⟩ H ds rest ∧
  Post W E ⟨nu, [], th⟩ H (fs ds g) fun d _ F' H' => ∀ v, Rep W F' H' d v → Q .non (upd H' x (.ins (W.cl c) dx [(W.fd c, v)]))
/-- this frame as the object's __init__ sees it -/
def Fb.inn (F : Fb) (x : Addr) : Fb := ⟨x :: (F.nu ++ F.om), [], F.th⟩
theorem inn_has {F : Fb} {x a : Addr} : (F.inn x).has a ↔ a = x ∨ F.has a := by
  unfold Fb.has Fb.inn
  simp only [List.mem_cons, List.mem_append, List.not_mem_nil, false_or]
  constructor
  · rintro ((h | h | h) | h)
    · exact .inl h
    · exact .inr (.inl h)
    · exact .inr (.inr (.inl h))
    · exact .inr (.inr (.inr h))
  · rintro (h | h | h | h)
    · exact .inl (.inl h)
    · exact .inl (.inr (.inl h))
    · exact .inl (.inr (.inr h))
    · exact .inr h
/-- the heap with the new object -/
def mk0 (W : Wd) (c : Nat) (H : Hp) (x dx : Addr) : Hp := upd (upd H dx (.own x)) x (.ins (W.cl c) dx [])
section
variable {F : Fb} {H : Hp} {gg : List Cell} {a dx : Addr}
theorem mk0_keep (ha : H a = none) (hd : H dx = none) : ∀ b u, H b = some u → mk0 W c H a dx b = some u := fun b u e => by
  unfold mk0
  rw [upd_ne (ne_of_none e ha), upd_ne (ne_of_none e hd)]
  exact e
theorem mk0_up (ha : H a = none) (hd : H dx = none) : Up F (F.inn a) H (mk0 W c H a dx) := ⟨fun b u e n => ⟨mk0_keep ha hd b u e, fun z => by
  rcases inn_has.mp z with z | z
  · exact ne_of_none e ha z
  · exact n z⟩, [], by simp [Fb.inn]⟩
theorem mk0_cells (cc : Cells W F H gg) (ha : H a = none) (hd : H dx = none) : Cells W (F.inn a) (mk0 W c H a dx) gg := by
  refine ⟨cc.nd, cc.len, fun n b y h1 h2 => ?_, fun b z => ?_, fun b hb => ⟨fun z => ?_, by simp [Fb.inn]⟩, fun b z => by cases z⟩
  · obtain ⟨u, hu⟩ := cc.tr b (.inr (.inr (List.mem_of_getElem? h1)))
    exact (cc.cel n b y h1 h2).up (mk0_up ha hd) (by rw [mk0_keep ha hd b u hu, hu])
  · rcases inn_has.mp z with z | z
    · exact ⟨_, by rw [z]; exact upd_same⟩
    · obtain ⟨u, hu⟩ := cc.tr b z
      exact ⟨u, mk0_keep ha hd b u hu⟩
  · rcases List.mem_cons.mp z with z | z
    · obtain ⟨u, hu⟩ := cc.tr b (.inr (.inr hb))
      exact ne_of_none hu ha z
    · exact (List.mem_append.mp z).elim (cc.dj b hb).1 (cc.dj b hb).2
/-- behind __init__ -/
theorem mk_back {F' : Fb} {H' : Hp} {g' : List Cell} {o' : HO} (cc : Cells W F H gg) (ha : H a = none) (hd : H dx = none) (x : Xe (F.inn a) F' (mk0 W c H a dx) H') (c' : Cells W F' H' g') :
    Xe F ⟨F.nu, F.om, F'.th⟩ H (upd H' a o') ∧ Cells W ⟨F.nu, F.om, F'.th⟩ (upd H' a o') g' ∧ Up F' ⟨F.nu, F.om, F'.th⟩ H' (upd H' a o') ∧ ¬ (⟨F.nu, F.om, F'.th⟩ : Fb).has a := by
  have hnu : F'.nu = a :: (F.nu ++ F.om) := x.nu
  have hth : ∀ b, b ∈ F'.th → b ≠ a := fun b hb z => (c'.dj b hb).1 (by rw [hnu, z]; exact List.mem_cons_self)
  have hin : ∀ b, b ∈ F.nu ∨ b ∈ F.om → b ≠ a := fun b hb z => by
    obtain ⟨u, hu⟩ := cc.tr b (hb.elim .inl fun h => .inr (.inl h))
    exact ne_of_none hu ha z
  have hh : ∀ b, (⟨F.nu, F.om, F'.th⟩ : Fb).has b → F'.has b := fun b z => by
    rcases z with z | z | z
    · exact .inl (by rw [hnu]; exact List.mem_cons_of_mem _ (List.mem_append_left _ z))
    · exact .inl (by rw [hnu]; exact List.mem_cons_of_mem _ (List.mem_append_right _ z))
    · exact .inr (.inr z)
  have hx : ¬ (⟨F.nu, F.om, F'.th⟩ : Fb).has a := fun z => by
    rcases z with z | z | z
    · exact hin _ (.inl z) rfl
    · exact hin _ (.inr z) rfl
    · exact hth _ z rfl
  have up : Up F' ⟨F.nu, F.om, F'.th⟩ H' (upd H' a o') := by
    refine ⟨fun b u e n => ⟨?_, fun z => n (hh b z)⟩, [], by simp⟩
    rw [upd_ne fun z => n (.inl (by rw [hnu, z]; exact List.mem_cons_self))]
    exact e
  have keep : ∀ b u, H b = some u → b ∉ F.th → upd H' a o' b = some u := fun b u e n => by
    rw [upd_ne (ne_of_none e ha)]
    exact x.keep b u (mk0_keep ha hd b u e) n
  refine ⟨⟨keep, fun b u e => ?_, ?_, rfl, rfl⟩, ⟨c'.nd, c'.len, fun n b y h1 h2 => ?_, fun b z => ?_, fun b hb => ?_, cc.dj2⟩, up, hx⟩
  · obtain ⟨u', e'⟩ := x.st b u (mk0_keep ha hd b u e)
    exact ⟨u', by rw [upd_ne (ne_of_none e ha)]; exact e'⟩
  · obtain ⟨more, e1, e2⟩ := x.th
    refine ⟨more, e1, fun b hb => ?_⟩
    have := e2 b hb
    cases q : H b with
    | none => rfl
    | some u => rw [mk0_keep ha hd b u q] at this; cases this
  · exact (c'.cel n b y h1 h2).up up (upd_ne (hth b (List.mem_of_getElem? h1)))
  · obtain ⟨u, hu⟩ := c'.tr b (hh b z)
    have hb : b ≠ a := fun w => by subst w; exact hx z
    exact ⟨u, by rw [upd_ne hb]; exact hu⟩
  · have := (c'.dj b hb).1
    rw [hnu] at this
    exact ⟨fun z => this (List.mem_cons_of_mem _ (List.mem_append_left _ z)), fun z => this (List.mem_cons_of_mem _ (List.mem_append_right _ z))⟩
end
/-- C(..) -/
def mkM (c : Nat) (fs : List D → List Cell → R D) (ma : M (List D)) : M D := fun e g => (ma e g).bind fun ds g1 => (fs ds g1).bind fun d g2 => .ok (.ob c d) g2
theorem sp_make {F : Fb} {H : Hp} {gg : List Cell} {ds : List D} {vs : List V} {Q : VK} (cc : Cells W F H gg) (rr : RepL W F H ds vs) (q : Post W E F H ((fs ds gg).bind fun d g2 => .ok (.ob c d) g2) fun d _ F' H' => ∀ v, Rep W F' H' d v → Q v H')
    {a dx : Addr} (ha : H a = none) (hd : H dx = none) : spIn W c fs (V.ref a :: vs) (mk0 W c H a dx) (fun v H2 => v = .non ∧ Q (.ref a) H2) E := by
  refine ⟨a, dx, vs, a :: (F.nu ++ F.om), F.th, ds, gg, rfl, upd_same, List.mem_cons_self, mk0_cells cc ha hd, rr.up (mk0_up ha hd), ?_⟩
  have p := Post.bind q
  revert p
  generalize fs ds gg = r
  intro p
  cases r with
  | ok d g' =>
    intro F' H' x c' v rv
    obtain ⟨h1, h2, h3, h4⟩ := mk_back (o' := .ins (W.cl c) dx [(W.fd c, v)]) cc ha hd x c'
    exact ⟨rfl, p _ _ h1 h2 _ _ .refl h2 _ ⟨a, dx, v, rfl, upd_same, h4, rv.up h3⟩⟩
  | ex cc' d g' =>
    intro F' H' dx' v x c' rv hx
    have hc : H' a = some (.ins (W.cl c) dx []) := x.keep a _ upd_same fun z => by
      obtain ⟨u, hu⟩ := cc.tr a (.inr (.inr z))
      exact ne_of_none hu ha rfl
    obtain ⟨h1, h2, h3, h4⟩ := mk_back (o' := .ins (W.cl c) dx []) cc ha hd x c'
    have e : upd H' a (.ins (W.cl c) dx []) = H' := by
      funext b
      by_cases hb : b = a
      · rw [hb, upd_same, hc]
      · rw [upd_ne hb]
    rw [e] at h1 h2 h3
    exact p _ H' dx' v h1 h2 (rv.up h3) (hx.up h3)
  | bad => exact p.elim
theorem run_mkP {sp : Sp} {pins : List (Addr × Obj)} {σ : L2.St} {H : Hp} {s : Shared} {Q : VK} {us : List Value} {vs : List V} (M : Mk X.K C f) (F : FnP X.prog X.w X.K X.mg X.base CX k f sp) (hG : X.A.guards = some []) (hr : Room (k + 1) X.A) (hx : Passes CX X E) (I : Inv X pins σ H s) (r : Vals vs us)
    (h : ∀ x dx, H x = Option.none → H dx = Option.none → dx ≠ x → sp (V.ref x :: vs) (upd (upd H dx (.own x)) x (.ins C dx [])) (fun v H2 => v = .non ∧ Q (.ref x) H2) E) :
    wpAny (model X.prog X.w) X.A (call (.ref C) us) (EP X pins σ Q) X.xe s := by
  have hq := h (s.heap.objs.size + 1) s.heap.objs.size (I.hok.fresh (Nat.le_succ _)) (I.hok.fresh (Nat.le_refl _)) (Nat.ne_of_lt (Nat.lt_succ_self _))
  have I2 := Inv.made (C := C) I
  have r2 : Vals (V.ref (s.heap.objs.size + 1) :: vs) (Value.ref (s.heap.objs.size + 1) :: us) := .cons rfl r
  refine wpAny_call (make_map (f := f) I.kIn M.makes M.init (beq_iff_eq.mp M.fn) (codeAny_mono (F _ X.stack _ _ (Value.ref (s.heap.objs.size + 1) :: us) _ _ E hG (hr.make C us []) (I2.env0.make C us []) r2 hq) fun r s' hq' => ?_))
  cases r with
  | error e => exact hx pins σ _ _ e s' I2 hq'
  | ok fl =>
    cases fl with
    | ret u =>
      obtain ⟨v, H', I3, rv, ev, q3⟩ := I2.after hq'
      subst ev
      exact ⟨rv, ⟨V.ref (s.heap.objs.size + 1), H', I3, rfl, q3⟩⟩
    | next => exact False.elim hq'
    | brk => exact False.elim hq'
    | cont => exact False.elim hq'
/-- cls(*xs), cls a local name -/
def mkStarM (c : Nat) (fs : List D → List Cell → R D) (mo mx : M D) : M D := onCl c mo fun e g => (mx e g).bind fun d g1 => match d with
  | .tup ds => (fs ds g1).bind fun d g2 => .ok (.ob c d) g2
  | _ => .bad
end
/-! ### __init__ : if t: r ; self.f = m -/
def inE (N : Nat) (ds : List D) : Env := .no :: (ds.map .v ++ List.replicate (N - 1 - ds.length) .no)
@[irreducible] def inM (N : Nat) (t : M Bool) (r : MS) (m : M D) : List D → List Cell → R D := fun ds g => (t (inE N ds) g).bind fun b g1 => if b = true then (match r (inE N ds) g1 with
  | .ex c d g2 => .ex c d g2
  | _ => .bad) else m (inE N ds) g1
/-- the items go into one tuple -/
def inStar (fs : List D → List Cell → R D) : List D → List Cell → R D := fun ds g => if ds.length ≤ 16777216 then fs [.tup ds] g else .bad
section
variable {W : Wd} {E : XK} {X : Cx} {F : Fb} {H : Hp} {g : List Cell}
theorem inE_st {nu th : List Addr} {ds : List D} {vs : List V} {N : List Str} {x : Addr} (c : Cells W ⟨nu, [], th⟩ H g) (r : RepL W ⟨nu, [], th⟩ H ds vs) (hN : 0 < N.length) : St W ⟨nu, [], th⟩ (inE N.length ds) g (L2.start N (.ref x :: vs)) H := by
  have hl := r.length
  have no_own : ∀ (i : Nat) (fs : List D), ¬ (inE N.length ds)[i]? = some (.own fs) := fun i fs h => by
    cases i with
    | zero => cases h
    | succ i =>
      have h : (ds.map Slot.v ++ List.replicate (N.length - 1 - ds.length) Slot.no)[i]? = some (.own fs) := h
      by_cases hi : i < ds.length
      · rw [List.getElem?_append_left (by simpa using hi), List.getElem?_map, List.getElem?_eq_getElem hi] at h
        cases h
      · rw [List.getElem?_append_right (by simpa using hi), List.getElem?_replicate] at h
        split at h <;> cases h
  refine ⟨c, by simp only [inE, L2.start, List.length_cons, List.length_append, List.length_map, List.length_replicate]; omega, fun i d h => ?_, fun i fs h => absurd h (no_own i fs), fun i j fs hs a n h => absurd h (no_own i fs)⟩
  cases i with
  | zero => cases h
  | succ i =>
    have h : (ds.map Slot.v ++ List.replicate (N.length - 1 - ds.length) Slot.no)[i]? = some (.v d) := h
    by_cases hi : i < ds.length
    · rw [List.getElem?_append_left (by simpa using hi), List.getElem?_map, List.getElem?_eq_getElem hi] at h
      cases h
      obtain ⟨v, h1, h2⟩ := r.get (List.getElem?_eq_getElem hi)
      refine ⟨v, ?_, h2⟩
      show ((V.ref x :: vs).map some ++ List.replicate (N.length - (V.ref x :: vs).length) none)[i + 1]? = _
      rw [List.getElem?_append_left (by rw [List.length_map, List.length_cons, ← hl]; omega), List.getElem?_map]
      show Option.map some vs[i]? = _
      rw [h1]; rfl
    · rw [List.getElem?_append_right (by simpa using hi), List.getElem?_replicate] at h
      split at h <;> cases h
theorem in_body {N : Nat} {c : Nat} {cnd e : Expr} {rs : List Stmt} {fld : Str} {p1 p2 p3 p4 : Pos} {t : M Bool} {r : MS} {m : M D} {ds : List D} {σ : L2.St} {Q : VK} {x dx : Addr} {nu th : List Addr} (hN : X.N[0]? = some ("self" : Str)) (hv : Vis X.env.scope "self")
    (hc : PT X cnd (tB W E t)) (hr : PSs X rs (tMS W E r)) (hm : PE X e (tM W E m)) (hsw : swapsWith e (some (.Attribute (.Name "self" p2) fld p3)) p4.line X.env = pure false) (hcl : Cls X.K (W.cl c)) (hna : NoAttr X.K (W.cl c) fld) (hf : W.fd c = fld)
    (S : St W ⟨nu, [], th⟩ (inE N ds) g σ H) (h0 : σ[0]? = some (some (V.ref x))) (hx : H x = some (.ins (W.cl c) dx [])) (hxn : x ∈ nu)
    (p : Post W E ⟨nu, [], th⟩ H (inM N t r m ds g) fun d _ F' H' => ∀ v, Rep W F' H' d v → Q .non (upd H' x (.ins (W.cl c) dx [(W.fd c, v)]))) :
    ∃ tt, PSs X [.If cnd rs [] p1, .Assign [.Attribute (.Name "self" p2) fld p3] e p4] tt ∧ tt { nx := fun _ H' => Q .non H', rt := Q } σ H := by
  subst hf
  refine ⟨_, pss_cons (ps_if hc hr pss_nil) (pss_one (ps_fld (pe_var hN hv) hm hsw)), ?_⟩
  unfold inM at p
  refine ⟨_, _, g, S, (Post.bind p).mono fun b g1 F1 H1 x1 c1 k1 => ?_⟩
  have hom : F1.om = [] := x1.om
  cases b with
  | true =>
    simp only [↓reduceIte] at k1 ⊢
    refine ⟨F1, _, g1, S.step x1 c1, ?_⟩
    revert k1
    generalize r (inE N ds) g1 = rr
    intro k1
    cases rr with
    | ex cc d g2 => exact fun F' H' dx' v y c' rv hd => k1 F'.base H' dx' v ⟨fun a o h n => y.keep a o h n (by rw [hom]; simp), y.st, y.th, y.nu, hom.symm⟩ c' rv hd
    | _ => exact k1.elim
  | false =>
    simp only [Bool.false_eq_true, ↓reduceIte] at k1 ⊢
    refine ⟨F1, _, g1, S.step x1 c1, k1.mono fun d g2 F2 H2 x2 c2 k2 v rv => ⟨_, h0, x, W.cl c, dx, [], rfl, ?_, hcl, hna, by decide, k2 v rv⟩⟩
    have n1 : x ∉ th := fun z => (S.cells.dj x z).1 hxn
    have h1 := x1.keep x _ hx n1
    exact x2.keep x _ h1 fun z => (c1.dj x z).1 (by rw [x1.nu]; exact hxn)
end
section
variable {P : Program} {w : World} {mg : Str → Option Value} {base : Heap} {W : Wd} {k c : Nat} {x0 qual pv fld : Str} {st : Stmt} {f : Addr} {fd : FuncData} {N : List Str} {t : M Bool} {r : MS} {m : M D} {cnd e : Expr} {rs : List Stmt} {p1 p2 p3 p4 : Pos}
theorem cxUp0 : StX.CXUp CX0 := fun _ _ _ _ _ _ _ _ _ _ _ z => z
theorem in_star (F : Fun W.K x0 qual st f fd) (S : FnScope N ((["self"] : List Str) ++ [pv]) (defScope st)) (hN : N[0]? = some ("self" : Str))
    (hb : ∀ us rest : List Value, us.length = (["self"] : List Str).length → bindArgs fd ⟨us ++ rest, []⟩ = (newTuple rest >>= fun t => pure ((["self"] : List Str).zip us ++ [(pv, t)])))
    (hbody : defBody st = [.If cnd rs [] p1, .Assign [.Attribute (.Name "self" p2) fld p3] e p4]) (hcl : Cls W.K (W.cl c)) (hna : NoAttr W.K (W.cl c) fld) (hf : W.fd c = fld)
    (h : ∀ (cdv : Value) (A : Around) (out : List PySem.Env) (s : Shared) (H : Hp) (E : XK), (A.deeper (envOfC qual (defScope st) s.heap.objs.size f cdv)).guards = some [] → Room k (A.deeper (envOfC qual (defScope st) s.heap.objs.size f cdv)) →
      PT (cxOf CX0 P w W.K mg base N qual (defScope st) f cdv A out s H E).nox cnd (tB W E t) ∧ PSs (cxOf CX0 P w W.K mg base N qual (defScope st) f cdv A out s H E).nox rs (tMS W E r) ∧ PE (cxOf CX0 P w W.K mg base N qual (defScope st) f cdv A out s H E).nox e (tM W E m) ∧
      Vis (cxOf CX0 P w W.K mg base N qual (defScope st) f cdv A out s H E).nox.env.scope "self" ∧ swapsWith e (some (.Attribute (.Name "self" p2) fld p3)) p4.line (cxOf CX0 P w W.K mg base N qual (defScope st) f cdv A out s H E).nox.env = pure false) :
    FnP P w W.K mg base CX0 (k + 1) f (spIn W c (inStar (inM N.length t r m))) := by
  obtain ⟨oc, od, kV, doc, pm, an, cdv, ct, osl, rfl, lk, hcd⟩ := F.ex
  intro A outer s H us vs Q E hg hr e0 rv ⟨x, dx, rest, nu, th, ds, g, ev, hx, hxn, cc, rr, p⟩
  subst ev
  obtain ⟨u1, u2, eu, r1, r2⟩ := StX.vals_split (ws := [V.ref x]) (rest := rest) rv
  subst eu
  have hn : H s.heap.objs.size = Option.none := e0.hok.fresh (Nat.le_refl _)
  have hl1 : u1.length = (["self"] : List Str).length := by rw [← r1.length]; rfl
  unfold inStar at p
  have hz : ds.length ≤ 16777216 := by
    by_cases q : ds.length ≤ 16777216
    · exact q
    · rw [if_neg q] at p; exact p.elim
  rw [if_pos hz] at p
  have hz2 : rest.length ≤ sizeLine := by rw [← rr.length]; exact hz
  refine StX.run_bnd lk hcd S hr e0 (G := fun xs H2 => ∃ q, H q = Option.none ∧ xs = [V.ref x] ++ [V.ref q] ∧ H2 = upd H q (.tup rest)) (fun A' Ex Q' h => ?_) fun s2 H2 xs ⟨q, hq, ex, eH⟩ hr' => ?_
  · rw [hb u1 u2 hl1]
    refine wpAny_bind (wpAny_newTuple (wpAny_pure ?_) (by rw [← r2.length]; exact hz2))
    have new : ObjOk P w (upd H s.heap.objs.size (.tup rest)) (s.heap.push ({ cls := .type "tuple", data := .seq u2.toArray } : Obj)) s.heap.objs.size (.tup rest) := ⟨hz2, u2, r2, ⟨_, Heap.get?_push_size _ rfl, rfl, _, rfl⟩⟩
    have un := StX.un_laid (fs := frs outer) (s := s) (o := ({ cls := .type "tuple", data := .seq u2.toArray } : Obj)) (u := .tup rest) hn
    have z := h _ _ ([V.ref x] ++ [V.ref s.heap.objs.size]) (u1 ++ [Value.ref s.heap.objs.size]) (StX.env0_laid e0 new) un rfl (fun e s' => cxUp0 outer s H _ _ E e s' un (fun b o q => Heap.get?_push_of_some _ q) rfl) (r1.append (.cons rfl .nil))
      rfl ⟨_, hn, rfl, rfl⟩
    rw [List.zip_append hl1.symm] at z
    exact z
  · subst ex eH
    obtain ⟨d1, d2, d3, d4, d5⟩ := h cdv A outer s2 (upd H q (.tup rest)) E hg hr'
    have nq : ¬ (⟨nu, [], th⟩ : Fb).has q := cc.none hq
    have tup : RepL W ⟨nu, [], th⟩ (upd H q (.tup rest)) [.tup ds] [V.ref q] := RepL.one ⟨q, rest, rfl, .inl ⟨.inl upd_same, nq⟩, rr.up (Xe.new hq).up⟩
    have S0 := inE_st (N := N) (x := x) (cc.new hq) tup (List.getElem?_eq_some_iff.mp hN).1
    obtain ⟨tt, h1, h2⟩ := in_body (p1 := p1) (Q := Q) (dx := dx) hN d4 d1 d2 d3 d5 hcl hna hf S0 rfl (by rw [upd_ne (ne_of_none hx hq)]; exact hx) hxn (p.on (Xe.new hq))
    exact ⟨tt, by rw [hbody]; exact h1.nox, h2⟩
end
end Ev

/-! Ev9: isinstance, names of classes and constants, fields, properties, cls( *xs). -/
namespace Ev
open PySem PySem.Spec PyProof.Rows L2
section
variable {W : Wd} {E : XK} {X : Cx} {CX : CXT} {k n c : Nat} {f C p g : Addr} {mc : Value} {fs : List D → List Cell → R D} {x y m fld : Str} {p1 p2 apos pos : Pos} {o e : Expr} {es : List Expr} {mo me : M D} {ma : M (List D)} {pl : Sem Bool} {F : Fb} {H : Hp}
/-! ### isinstance -/
def tyD : D → Option String
  | .non => some "NoneType"
  | .bl _ => some "bool"
  | .int _ => some "int"
  | .str _ => some "str"
  | .tup _ => some "tuple"
  | .lst _ => some "list"
  | .sc _ => some "list"
  | .da _ => some "dict"
  | _ => none
theorem ty_of {d : D} {v : V} {t : String} (h : Rep W F H d v) (e : tyD d = some t) : TyX W.K H v (.type t) := by
  cases d with
  | non => cases e; cases (show v = .non from h); exact .base .non
  | bl b => cases e; cases (show v = .bl b from h); exact .base (.bl b)
  | int b => cases e; cases (show v = .int b from h); exact .base (.int b)
  | str b => cases e; cases (show v = .str b from h); exact .base (.str b)
  | tup ds =>
    cases e
    obtain ⟨a, vs, rfl, t, _⟩ := h
    rcases t with ⟨t | ⟨o, t⟩, _⟩ | ⟨o, its, n, lk, cl, _⟩
    · exact .base (.tup t)
    · exact .fTuple t
    · exact .kTuple lk cl
  | lst ds =>
    cases e
    obtain ⟨a, vs, rfl, t, _⟩ := h
    exact .base (.lst t)
  | sc ns =>
    cases e
    obtain ⟨a, rfl, t⟩ := h
    rcases t with ⟨⟨o, t⟩, _⟩ | ⟨o, its, n, lk, cl, _⟩
    · exact .base (.frz t)
    · exact .kList lk cl
  | da ds =>
    cases e
    obtain ⟨a, vs, rfl, t, _⟩ := h
    rcases t with t | ⟨o, t⟩
    · exact .base (.dK t)
    · exact .fDict t
  | _ => cases e
def isiD (T : String) : D → List Cell → Option D := fun d _ => match tyD d with
  | some t => (kitB t T).map .bl
  | none => none
theorem ev_isi {T : String} (hK : X.K = W.K) (hg : Gl X x) (hx : x = ("isinstance" : Str)) (hm : X.mg x = none) (hgT : Gl X y) (hmT : X.mg y = none) (hv : bootBuiltins x = some (.builtin "isinstance")) (hvT : bootBuiltins y = some (.type T)) (he : PE X e (tM W E me)) (hn : x ≠ "__name__" := by decide) (hnT : y ≠ "__name__" := by decide)
    (hd : (x == ("__debug__" : Str)) = false := by decide) (hdT : (y == ("__debug__" : Str)) = false := by decide)
    (s1 : starEach [e, .Name y p2] X.env = (false, eval e X.env) :: starEach [.Name y p2] X.env := by rfl) (s2 : starEach [.Name y p2] X.env = (false, eval (.Name y p2) X.env) :: starEach [] X.env := by rfl) (hpl : (backTo pos (starEach [.Name y p2] X.env)).any (·.1) = false := by rfl) :
    PE X (.Call (.Name x p1) [e, .Name y p2] [] pos) (tM W E (unM (isiD T) me)) := by
  refine weakE (pe_callB call_isi hg hm hv (pa_cons he (pa_cons (pe_bltn (v := .ty T) hgT hmT hvT rfl hnT hdT) pa_nil s2) s1) hn hd s1 hpl) fun σ H Q ⟨F, en, g, S, p⟩ => ?_
  refine ⟨F, en, g, S, (Post.bind p).mono fun x g1 F1 H1 x1 c1 p1 v r1 => ?_⟩
  obtain ⟨d, hd, kk⟩ := post_of p1
  unfold isiD at hd
  cases q : tyD x with
  | none => rw [q] at hd; cases hd
  | some t =>
    rw [q] at hd
    simp only at hd
    cases q2 : kitB t T with
    | none => rw [q2] at hd; cases hd
    | some b =>
      rw [q2] at hd
      cases hd
      exact ⟨v, .ty T, .type t, .type T, b, rfl, .ty T, by rw [hK]; exact ty_of r1 q, kit_ty q2, kk F1 H1 .refl c1 _ (rep_bl _)⟩
/-! ### names of the module: classes, constants -/
theorem ev_cls (hg : Gl X x) (hm : X.mg x = some (.ref (W.cl c))) (hd : (x == ("__debug__" : Str)) = false := by decide) : PE X (.Name x pos) (tM W E (conM (.cl c))) :=
  weakE (pe_glob (v := .ref (W.cl c)) hg hm rfl hd) fun _ _ _ h => r_con (d := .cl c) (fun _ _ => rfl) h
theorem ev_gint {i : Int} (hg : Gl X x) (hm : ∃ t, X.mg x = some (.int i t)) (hd : (x == ("__debug__" : Str)) = false := by decide) : PE X (.Name x pos) (tM W E (conM (.int i))) := by
  obtain ⟨t, hm⟩ := hm
  exact weakE (pe_glob (v := .int i) hg hm ⟨t, rfl⟩ hd) fun _ _ _ h => r_con (d := .int i) (fun _ _ => rfl) h
/-! ### fields, properties -/
/-- the one field of an object of one of the first n classes -/
def fldD (n : Nat) : D → List Cell → Option D := fun d _ => match d with
  | .ob c d => if c < n then some d else none
  | _ => none
theorem fld_of {n : Nat} {d x : D} {v : V} {g : List Cell} (h : Rep W F H x v) (e : fldD n x g = some d) : ∃ c a dx u, c < n ∧ x = .ob c d ∧ v = .ref a ∧ H a = some (.ins (W.cl c) dx [(W.fd c, u)]) ∧ Rep W F H d u := by
  cases x with
  | ob c d' =>
    by_cases hc : c < n
    · have e : (if c < n then some d' else none) = some d := e
      rw [if_pos hc] at e
      cases e
      obtain ⟨a, dx, u, h1, h2, _, h3⟩ := h
      exact ⟨c, a, dx, u, hc, rfl, h1, h2, h3⟩
    · have e : (if c < n then some d' else none) = some d := e
      rw [if_neg hc] at e
      cases e
  | _ => cases e
/-- what stands of the first n classes -/
structure FldOk (W : Wd) (n : Nat) (fld : Str) : Prop where
  cls : ∀ c, c < n → Cls W.K (W.cl c)
  no : ∀ c, c < n → NoAttr W.K (W.cl c) fld
  fd : ∀ c, c < n → W.fd c = fld
theorem ev_fld (hK : X.K = W.K) (K : FldOk W n fld) (he : PE X e (tM W E me)) (hb : attributeBase e fld X.env (eval e X.env) = eval e X.env := by rfl) : PE X (.Attribute e fld pos) (tM W E (unM (fldD n) me)) :=
  weakE (pe_fld he hb) fun σ H Q ⟨F, en, g, S, p⟩ => by
    refine ⟨F, en, g, S, (Post.bind p).mono fun x g1 F1 H1 x1 c1 p1 v r1 => ?_⟩
    obtain ⟨d, hd, kk⟩ := post_of p1
    obtain ⟨c, a, dx, u, hc, _, h1, h2, h3⟩ := fld_of r1 hd
    refine ⟨a, W.cl c, dx, [(W.fd c, u)], u, h1, h2, by rw [hK]; exact K.cls c hc, by rw [hK]; exact K.no c hc, ?_, kk F1 H1 .refl c1 _ h3⟩
    rw [← K.fd c hc]
    simp [List.lookup]
/-- a property that hands out the field -/
structure PrpOk (P : Program) (w : World) (W : Wd) (mg : Str → Option Value) (base : Heap) (n : Nat) (m fld : Str) : Prop where
  cls : ∀ c, c < n → Cls W.K (W.cl c)
  fd : ∀ c, c < n → W.fd c = fld
  prp : ∀ c, c < n → ∃ (p g : Addr) (fd : FuncData), PropOf W.K (W.cl c) m p g ∧ FnOk P w W.K mg base CX0 1 g fd ["self"] (getSp (W.cl c) fld) ∧ Binds W.K fd ["self"] []
theorem getprop1_ok {pins : List (Addr × Obj)} {σ : L2.St} {H : Hp} {s : Shared} {Q : VK} {b : Bool} {E' : Value → Shared → Prop} {a dx : Addr} {us : List (Str × V)} {v : V} (P : PrpOk X.prog X.w W X.mg X.base n m fld) (hK : X.K = W.K) (hr : Room 2 X.A) (I : Inv X pins σ H s) (hc : c < n)
    (ea : H a = some (.ins (W.cl c) dx us)) (hl : us.lookup fld = some v) (q : Q v H) : wpAny (model X.prog X.w) X.A (getAttr (.ref a) m b) (EP X pins σ Q) E' s := by
  obtain ⟨p, g, fd, h1, h2, h3⟩ := P.prp c hc
  have h : getSp (W.cl c) fld [V.ref a] H Q (fun _ _ _ => False) := ⟨a, dx, us, v, rfl, ea, hl, q⟩
  have h2' : FnOk X.prog X.w X.K X.mg X.base CX0 1 g fd ["self"] (getSp (W.cl c) fld) := by rw [hK]; exact h2
  exact getprop_ok (k := 1) (ps := ["self"]) (ds := []) (dvs := []) (E := fun _ _ _ => False) I ea (by rw [hK]; exact P.cls c hc) (by rw [hK]; exact h1) h2' hr (by rw [hK]; exact h3) .nil pass00 h
theorem ev_prp (hK : X.K = W.K) (P : PrpOk X.prog X.w W X.mg X.base n m fld) (hr : Room 2 X.A) (he : PE X e (tM W E me)) (hb : attributeBase e m X.env (eval e X.env) = eval e X.env := by rfl) : PE X (.Attribute e m pos) (tM W E (unM (fldD n) me)) := by
  refine ⟨fun pins s σ H Q I ⟨F, en, g, S, p⟩ => ?_⟩
  refine attr_of hb (thn (he.run pins s σ H (fun v H1 => ∃ c a dx u, c < n ∧ v = .ref a ∧ H1 a = some (.ins (W.cl c) dx [(W.fd c, u)]) ∧ Q u H1) I ⟨F, en, g, S, (Post.bind p).mono fun x g1 F1 H1 x1 c1 p1 v r1 => ?_⟩) fun u s1 ⟨x, H1, I1, rx, c, a, dx, w, hc, ex, ea, q⟩ => ?_)
  · obtain ⟨d, hd, kk⟩ := post_of p1
    obtain ⟨c, a, dx, u, hc, _, h1, h2, h3⟩ := fld_of r1 hd
    exact ⟨c, a, dx, u, hc, h1, h2, kk F1 H1 .refl c1 _ h3⟩
  · subst ex
    obtain rfl : u = Value.ref a := rx
    exact getprop1_ok P hK hr I1 hc ea (by rw [← P.fd c hc]; simp [List.lookup]) q
/-! ### cls( *xs) -/
theorem ev_mkStar {mx : M D} {sp_ : Pos} {e : Expr} (hK : X.K = W.K) (M : Mk X.K (W.cl c) f) (F : FnP X.prog X.w X.K X.mg X.base CX k f (spIn W c fs)) (hG : X.A.guards = some []) (hr : Room (k + 1) X.A) (px : Passes CX X E) (ho : PE X (.Name x p1) (tM W E mo)) (hx : PE X e (tM W E mx))
    (hst : starEach [.Starred e sp_] X.env = [(true, eval e X.env)] := by rfl) : PE X (.Call (.Name x p1) [.Starred e sp_] [] pos) (tM W E (mkStarM c fs mo mx)) := by
  refine ⟨fun pins s σ H Q I ⟨F0, en, g, S, q⟩ => wpAny_Call_Name_kw ?_⟩
  have q1 := (onCl_post q).mono fun d g1 F1 H1 x1 c1 k1 v rv => (⟨(k1 v rv).1, F1, en, g1, S.step x1 c1, (Post.bind (k1 v rv).2).mono fun d g2 F2 H2 x2 c2 k2 y rr => by
    cases d with
    | tup ds =>
      obtain ⟨a, vs, e1, t, rl⟩ := rr
      exact ⟨a, vs, e1, by rw [hK]; exact t.seq, fun b dx h1 h2 _ => sp_make c2 rl k2 h1 h2⟩
    | _ => exact k2.elim⟩ : v = .ref (W.cl c) ∧ tM W E mx σ H1 fun y H2 => ∃ a vs, y = V.ref a ∧ SqT X.K H2 a vs ∧ ∀ b dx, H2 b = Option.none → H2 dx = Option.none → dx ≠ b → spIn W c fs (V.ref b :: vs) (mk0 W c H2 b dx) (fun v H2 => v = .non ∧ Q (.ref b) H2) E)
  refine thn (ho.run pins s σ H _ I ⟨F0, en, g, S, q1⟩) fun u s1 ⟨v, H1, I1, rv, ev, q⟩ => ?_
  subst ev
  obtain rfl : u = Value.ref (W.cl c) := rv
  refine PySem.W.callWith_S (h₀ := X.base) I.ok.mod.kin M.kp (thn (hx.run pins s1 σ H1 _ I1 q) fun v s2 ⟨y, H2, I2, ry, a, xs, ey, hxs, q2⟩ => ?_) hst
  subst ey
  obtain rfl : v = Value.ref a := ry
  exact StX.star_any I2 (.inl hxs) fun us s3 I3 rv => ⟨I3.kIn, run_mkP M F hG hr px I3 rv q2⟩
end
end Ev

/-! Ev10: enumerate over tuples and lists. -/
namespace PySem
open PySem.Spec
section
variable {prog : Program} {w : World} {A : Around} {E : Value → Shared → Prop} {s : Shared}
end
end PySem
namespace Ev
open PySem PySem.Spec PyProof.Rows L2
/-- the tuple at a, each item in a new pair -/
def IteT (K : PySem.W.Frag) (a : Addr) : It :=
  ⟨fun i H => ∃ (xs : List V) (x : V), SqT K H a xs ∧ xs[i]? = some x, fun i H v H' => ∃ T x, v = .ref T ∧ H T = none ∧ H' = upd H T (.tup [.int (i : Nat), x]) ∧ ∀ xs, SqT K H a xs → xs[i]? = some x, fun i H => ∃ xs : List V, SqT K H a xs ∧ xs.length = i⟩
/-- numbered from 0 -/
def enumL (xs : List D) : List D := (List.range xs.length).zipWith (fun i x => .tup [.int (i : Nat), x]) xs
def enumIt (m : M (List D)) : M (List D) := fun e g => (m e g).bind fun ds g1 => match ds with
  | [.lst xs] => .ok (enumL xs) g1
  | [.tup xs] => .ok (enumL xs) g1
  | _ => .bad
@[simp] theorem enumL_length (xs : List D) : (enumL xs).length = xs.length := by simp [enumL]
section
variable {W : Wd} {E : XK} {X : Cx} {a : Expr} {mr : M (List D)} {p1 pos tpos : Pos}
end
end Ev

/-! Ev11: in, not in; int( ). -/
namespace Ev
open PySem PySem.Spec PyProof.Rows L2
def toV : D → V
  | .bl b => .bl b
  | .int i => .int i
  | .str x => .str x
  | _ => .non
def flatD : D → Bool
  | .non => true
  | .bl _ => true
  | .int _ => true
  | .str _ => true
  | _ => false
theorem flat_of {W : Wd} {F : Fb} {H : Hp} {d : D} {v : V} (h : Rep W F H d v) (f : flatD d = true) : v = toV d ∧ flatV v = true := by
  cases d with
  | non => cases (show v = .non from h); exact ⟨rfl, rfl⟩
  | bl b => cases (show v = .bl b from h); exact ⟨rfl, rfl⟩
  | int b => cases (show v = .int b from h); exact ⟨rfl, rfl⟩
  | str b => cases (show v = .str b from h); exact ⟨rfl, rfl⟩
  | _ => cases f
theorem flats_of {W : Wd} {F : Fb} {H : Hp} : ∀ {ds : List D} {vs : List V}, RepL W F H ds vs → ds.all flatD = true → vs = ds.map toV ∧ vs.all flatV = true
  | [], vs, h, _ => by cases (show vs = [] from h); exact ⟨rfl, rfl⟩
  | d :: ds, vs, h, f => by
    obtain ⟨v, r, rfl, h1, h2⟩ := h
    rw [List.all_cons, Bool.and_eq_true] at f
    obtain ⟨e1, f1⟩ := flat_of h1 f.1
    obtain ⟨e2, f2⟩ := flats_of h2 f.2
    exact ⟨by rw [List.map_cons, e1, e2], by rw [List.all_cons, f1, f2]; rfl⟩
/-- x in the items ds, all of it flat -/
def inD (neg : Bool) : D → D → List Cell → Option D := fun x y _ => match y with
  | .lst ds => if flatD x = true ∧ ds.all flatD = true then some (.bl (if neg then !inV (toV x) (ds.map toV) else inV (toV x) (ds.map toV))) else none
  | .tup ds => if flatD x = true ∧ ds.all flatD = true then some (.bl (if neg then !inV (toV x) (ds.map toV) else inV (toV x) (ds.map toV))) else none
  | _ => none
section
variable {W : Wd} {E : XK} {X : Cx} {a b : Expr} {ma mb : M D} {pos : Pos}
theorem rf_in {neg : Bool} : RF W (inD neg) (rIn W.K neg) := by
  intro F H g x y d v u Q c rx ry e k
  cases y <;> try (cases e; done)
  · rename_i ds
    have e : (if flatD x = true ∧ ds.all flatD = true then some (D.bl (if neg then !inV (toV x) (ds.map toV) else inV (toV x) (ds.map toV))) else none) = some d := e
    split at e
    · rename_i hc
      cases e
      obtain ⟨p, vs, e1, t, r⟩ := ry
      have rx' : Rep W F H x v := by cases x <;> first | exact rx | cases hc.1
      obtain ⟨e2, f2⟩ := flat_of rx' hc.1
      obtain ⟨e3, f3⟩ := flats_of r hc.2
      refine ⟨p, vs, e1, .inr t.seq, f2, f3, ?_⟩
      rw [e2, e3]
      exact k H _ (fun _ _ h => h) c (rep_bl _)
    · cases e
  · rename_i ds
    have e : (if flatD x = true ∧ ds.all flatD = true then some (D.bl (if neg then !inV (toV x) (ds.map toV) else inV (toV x) (ds.map toV))) else none) = some d := e
    split at e
    · rename_i hc
      cases e
      obtain ⟨p, vs, e1, t, _, r⟩ := ry
      have rx' : Rep W F H x v := by cases x <;> first | exact rx | cases hc.1
      obtain ⟨e2, f2⟩ := flat_of rx' hc.1
      obtain ⟨e3, f3⟩ := flats_of r hc.2
      refine ⟨p, vs, e1, .inl (.of t), f2, f3, ?_⟩
      rw [e2, e3]
      exact k H _ (fun _ _ h => h) c (rep_bl _)
    · cases e
theorem ev_nin (hK : X.K = W.K) (ha : PE X a (tS W E ma)) (hb : PE X b (tS W E mb)) (hm : behindInMarks .NotIn b = false := by rfl) : PE X (.Compare a [.NotIn] [b] pos) (tM W E (opM (inD true) ma mb)) :=
  weakE (pe_cmpR (by rw [← hK]; exact op_notIn_seq) ha hb hm) fun _ _ _ h => r_op rf_in h
theorem ev_ninT (hK : X.K = W.K) (ha : PE X a (tS W E ma)) (hb : PE X b (tS W E mb)) (hm : behindInMarks .NotIn b = false := by rfl) : PT X (.Compare a [.NotIn] [b] pos) (tB W E (boolM (opM (inD true) ma mb))) :=
  weakT (pt_cmpR (by rw [← hK]; exact op_notIn_seq) ha hb hm) fun σ H Q hh => r_op rf_in (r_bool (fun _ _ _ => True) hh)
/-- int(x) of an int, a bool -/
def intF : List D → List Cell → Option D := fun ds _ => match ds with
  | [.int i] => some (.int i)
  | [.bl b] => some (.int (if b then 1 else 0))
  | _ => none
theorem t_int : TyOk W X "int" intF := by
  refine ⟨_, call_int1, ?_⟩
  intro F H g ds d vs Q c rr e k
  cases ds with
  | nil => cases e
  | cons y ys =>
    cases ys with
    | cons _ _ => cases y <;> cases e
    | nil =>
      obtain ⟨v, rfl, rv⟩ := look1 rr
      cases y <;> try (cases e; done)
      · cases e
        exact .inr ⟨_, by rw [show v = _ from rv], k H _ (fun _ _ h => h) c (rep_int _)⟩
      · cases e
        exact .inl ⟨_, by rw [show v = _ from rv], k H _ (fun _ _ h => h) c (rep_int _)⟩
end
end Ev

/-! Ev12: *xs, y = a tuple. -/
namespace PySem.W
open PySem PySem.Spec PySem.Calls PyProof.Rows
end PySem.W
namespace Ev
open PySem PySem.Spec PyProof.Rows L2
/-- *xs, y .. = a tuple: the first take a new list -/
def gStar (K : PySem.W.Frag) (n : Nat) (t : TGs) : TG := fun v σ H Q => ∃ a xs, v = .ref a ∧ SqT K H a xs ∧ n ≤ xs.length + 1 ∧ ∀ p, H p = none → t (.ref p :: xs.drop (xs.length + 1 - n)) σ (upd H p (.lst (xs.take (xs.length + 1 - n)))) Q
section
variable {X : Cx} {pos p1 : Pos}
/-- the first value of several takes the list -/
def tgStar (n : Nat) (fs : List D → Env → Option Env) : D → Env → Option Env := fun d e => match d with
  | .tup ds => if n ≤ ds.length + 1 then fs (.lst (ds.take (ds.length + 1 - n)) :: ds.drop (ds.length + 1 - n)) e else none
  | _ => none
end
section
variable {W : Wd} {E : XK} {X : Cx} {a : Expr} {es : List Expr} {ma : M D} {fs : List D → Env → Option Env} {v1 : List Nat} {pos tpos p1 : Pos} {f : D → Env → Option Env} {v2 : List Nat}
end
end Ev

/-! Ev13: defs with defaults by their body; boot facts; methods' records for the generated texts. -/
namespace Ev
open PySem PySem.Spec PyProof.Rows L2
theorem bt_int : bootBuiltins "int" = some (.type "int") := by decide +kernel
theorem bt_bool : bootBuiltins "bool" = some (.type "bool") := by decide +kernel
theorem bt_isinstance : bootBuiltins "isinstance" = some (.builtin "isinstance") := by decide +kernel
/-- a def with defaults, by its body -/
theorem fn_evD {P : Program} {w : World} {mg : Str → Option Value} {base : Heap} {W : Wd} {k n m : Nat} {x qual : Str} {st : Stmt} {f : Addr} {fd : FuncData} {N ps : List Str} {body : MS} {dvs : List V} {kws : List (Str × V)} (F : FunD W.K x qual (defArgs st) (defBody st) (defScope st) dvs kws f fd) (S : FnScope N ps (defScope st)) (hn : ps.length = n) (hm : N.length = m)
    (h : ∀ (cdv : Value) (A : Around) (out : List PySem.Env) (s : Shared) (H : Hp) (E : XK), (A.deeper (envOfC qual (defScope st) s.heap.objs.size f cdv)).guards = some [] → Room k (A.deeper (envOfC qual (defScope st) s.heap.objs.size f cdv)) →
      PSs (cxOf CX0 P w W.K mg base N qual (defScope st) f cdv A out s H E).nox (defBody st) (tMS W E body)) : FnG P w W.K mg base CX0 (k + 1) f fd ps (spEv W n (fnM n m body)) := by
  subst hn hm
  obtain ⟨oc, od, dV, kV, doc, pm, an, cdv, ct, osl, rfl, lk, hcd, _, _⟩ := F.ex
  refine fnG_of lk hcd S (fun vs H Q E q => spEv_len q) fun A out s H vs Q E hg hr hsp => ⟨_, (h cdv A out s H E hg hr).nox, ?_⟩
  obtain ⟨nu, th, ds, g, c, r, hl, p⟩ := hsp
  have S0 := st_start (N := N) c r
  rw [hl] at S0
  unfold fnM at p
  rw [if_pos hl] at p
  exact ⟨_, _, g, S0, fn_post p⟩
/-- a def of the module with one default None -/
structure DfD (K : PySem.W.Frag) (mg : Str → Option Value) (x : Str) (st : Stmt) (ps : List Str) where
  f : Addr
  fd : FuncData
  fn : FunD K x x (defArgs st) (defBody st) (defScope st) [V.non] [] f fd
  gl : mg x = some (.ref f)
  bd : ∃ ds, Vals [] ds ∧ Binds K fd ps ds
  bd1 : ∃ ds, Vals [V.non] ds ∧ Binds K fd ps ds
/-- a method's def -/
structure Dm (K : PySem.W.Frag) (x qual : Str) (st : Stmt) where
  f : Addr
  fd : FuncData
  fn : Fun K x qual st f fd
/-- all of a class's records that are read -/
structure ClsRec (K : PySem.W.Frag) (C : Addr) : Prop where
  cls : Cls K C
  cr : ClX.CRead K C (.type "type")
theorem FnP.ofD {P : Program} {w : World} {K : PySem.W.Frag} {mg : Str → Option Value} {base : Heap} {CX : CXT} {k : Nat} {f : Addr} {fd : FuncData} {ps : List Str} {sp : Sp} (G : FnG P w K mg base CX k f fd ps sp) (bd : ∃ ds, Vals [] ds ∧ Binds K fd ps ds) : FnP P w K mg base CX k f sp := by
  obtain ⟨ds, hd, hb⟩ := bd
  cases hd
  exact G.pos0 hb
theorem prp_of {P : Program} {w : World} {W : Wd} {mg : Str → Option Value} {base : Heap} {x qual fld : Str} {st : Stmt} {g C : Addr} {fd : FuncData} {N : List Str} {p1 p2 p3 : Pos} (F : Fun W.K x qual st g fd) (S : FnScope N ["self"] (defScope st)) (hN : N[0]? = some ("self" : Str))
    (hb : defBody st = [.Return (some (.Attribute (.Name "self" p1) fld p2)) p3]) (c : Cls W.K C) (n : NoAttr W.K C fld) : FnOk P w W.K mg base CX0 1 g fd ["self"] (getSp C fld) := by
  obtain ⟨oc, od, kV, doc, pm, an, cdv, ct, osl, rfl, lk, hcd⟩ := F.ex
  exact fn_getter lk hcd S hN hb c n
end Ev

/-! Ev14: written products. -/
namespace Ev
open PySem PySem.Spec PyProof.Rows L2
section
variable {W : Wd} {E : XK} {X : Cx} {a b : Expr} {pos : Pos} {ma mb : M D}
def mulW : D → D → List Cell → Option D := onI (fun i j => decide (i.natAbs.log2 + j.natAbs.log2 < 1000000)) fun i j => .int (i * j)
end
end Ev

/-! Ev15: operators and comparisons of two own classes, one standing below the other. -/
namespace PySem.W
open PySem PySem.Calls PyProof.Rows Builtin
section
variable {prog : Program} {w : World} {A : Around} {E : Value → Shared → Prop} {s : Shared} {K : Frag} {C D : Addr} {name : Str}

/-- the class at D is read by type.__getattribute__, and has no such name -/
def missIn (K : Frag) (D : Addr) (name : Str) : Bool := readsIn K D (.type "type") && (findIn K (.ref D) name == some none && (findIn K (.type "type") name == some none && (findIn K (.type "type") "__getattr__" == some none &&
  (clsIn K D).any fun cd => decide (cd.name.cps.foldl (fun k c => k + (Str.utf8Of c).length) 0 ≤ 100) && decide (((s!"type object '{cd.name.toString}' has no attribute '" : Str) ++ name ++ ("'" : Str)).length ≤ 1000))))
end
section
variable {prog : Program} {w : World} {A : Around} {E : Value → Shared → Prop} {s : Shared} {K : Frag} {x y C D f f' L : Addr} {h₀ : Heap} {m : Str → Option Value} {ox oy : Obj} {od od' : Option Obj} {nm : String}
end

section
variable {prog : Program} {w : World} {A : Around} {E : Value → Shared → Prop} {s : Shared} {K : Frag} {x y C D f L : Addr} {h₀ : Heap} {m : Str → Option Value} {ox oy : Obj} {od od' : Option Obj} {name : Str} {id n : String} {B : Builtin}
theorem ifBound_blt {args : List Value} {Q : Option Value → Shared → Prop} (X : K.In s.heap) (I : InstAt s.heap x ox C od) (hs : findIn K (.ref C) name = some (some (.builtin id))) (hb : ∀ self, bindSpecial (.builtin id) self = pure (.builtin id, [self])) (hk : builtinKind id = some .slot) (hsp : splitId id = some ("object", n))
    (hpl : plainId id = true) (he : entryFor table id = some B) (ha : argsOk id ⟨.ref x :: args, []⟩) (hsub : subIn K (.ref C) (.type "object") = some true)
    (h : wpAny (model prog w) A.in1 (B ⟨.ref x :: args, []⟩) (fun fin s' => ∃ v, fin = .done (.ret v) ∧ Q (some v) s') E s) : wpAny (model prog w) A (callSpecialIfBound? (.ref x) name args) Q E s := by
  have L0 : Looks (model prog w) s.heap (isInstance (.ref x) (.type "object")) true := I.type.andThen (looks_subIn X hsub)
  simp only [callSpecialIfBound?, bindSpecialIfBound?]
  refine wpAny_holding (wpAny_bind (wpAny_bind (wpAny_bind (I.type.here ((looks_findIn X hs).here ?_)))))
  refine wpAny_bind (wpAny_askSetting (wpAny_ite ?_))
  have fin : wpAny (model prog w) A (call (.builtin id) ([.ref x] ++ args) >>= fun v => pure (some v)) Q E s := by
    refine wpAny_bind (wpAny_call (codeAny_call_builtin hpl he ?_))
    refine @check_slot (model prog w) _ _ s id "object" n (.ref x) args [] _ hk hsp L0 ha ?_
    refine wpAny_mono h (fun fin s' z => ?_) fun _ _ z => z
    obtain ⟨v, rfl, hq⟩ := z
    exact wpAny_pure hq
  split
  · refine wpAny_bind ?_
    rw [hb]
    exact wpAny_pure (wpAny_pure (by exact fin))
  · refine wpAny_tryCatch (wpAny_bind ?_)
    rw [hb]
    exact wpAny_pure (wpAny_pure (by exact fin))
theorem try_fn {b : Value} {Q : Option Value → Shared → Prop} (X : K.In s.heap) (I : InstAt s.heap x ox C od) (hs : findIn K (.ref C) name = some (some (.ref f))) (hf : isFn K (.ref f) = true)
    (h : wpAny (model prog w) A (call (.ref f) [.ref x, b]) (CmpBack fun v s' => Q (some v) s') E s) : wpAny (model prog w) A (tryCompare (.ref x) name b) Q E s := by
  unfold tryCompare
  refine wpAny_bind (ifBound_K X I hs hf (wpAny_mono h (fun v s' hv => ?_) fun _ _ e => e))
  cases v <;> first | exact hv.elim | exact wpAny_pure hv
/-- != where the class has an own == alone -/
theorem try_ne {b : Value} {Q : Option Value → Shared → Prop} (hu : A.units + 1 < cLine) (X : K.In s.heap) (I : InstAt s.heap x ox C od) (hs : findIn K (.ref C) "__ne__" = some (some (.builtin "object.__ne__"))) (hsub : subIn K (.ref C) (.type "object") = some true)
    (he : findIn K (.ref C) "__eq__" = some (some (.ref f))) (hf : isFn K (.ref f) = true)
    (h : wpAny (model prog w) A.in1 (call (.ref f) [.ref x, b]) (BoolBack fun r s' => Q (some (.bool (!r))) s') E s) : wpAny (model prog w) A (tryCompare (.ref x) "__ne__" b) Q E s := by
  unfold tryCompare
  refine wpAny_bind (ifBound_blt X I hs PySem.F.slot_object_ne.bind F.cmpKind_ne F.cmpSplit_ne PySem.F.slot_object_ne.plain F.cmpEntry_ne (F.cmpArgs_ne _ _) hsub ?_)
  unfold Builtin.«object.__ne__»
  refine wpAny_bind (wpAny_pure ?_)
  refine wpAny_bind (wpAny_cRoomFor hu ?_)
  refine wpAny_bind (ifBound_K X I he hf (wpAny_mono h (fun v s' hv => ?_) fun _ _ e => e))
  cases v <;> first | exact hv.elim | skip
  refine wpAny_bind (wpAny_pure ?_)
  exact wpAny_pure ⟨_, rfl, wpAny_pure hv⟩
section
variable {op : CmpOp} {b tb : Value} {Q : Value → Shared → Prop}
theorem rc_left (hu : A.units < cLine) (X : K.In s.heap) (I : InstAt s.heap x ox C od) (hb : Looks (model prog w) s.heap (typeOf b) tb) (hn : notFirst K C tb = true)
    (h : wpAny (model prog w) A (tryCompare (.ref x) (cmpInfo op).2.1 b) (fun r s' => ∃ v, r = some v ∧ Q v s') E s) : wpAny (model prog w) A (richCompare op (.ref x) b) Q E s := by
  unfold richCompare
  simp only [oneThing_ref]
  refine wpAny_holding (wpAny_bind (wpAny_cRoomFor hu ?_))
  refine wpAny_bind (I.type.here (wpAny_bind (hb.here ?_)))
  split
  · rename_i q
    have e : subIn K tb (.ref C) = some false := by
      rcases Bool.or_eq_true_iff.mp hn with e | e
      · rw [beq_iff_eq.mp e] at q; simp at q
      · exact beq_iff_eq.mp e
    refine wpAny_bind ((looks_subIn X e).here ?_)
    simp only [Bool.false_eq_true, if_false]
    refine wpAny_bind (wpAny_mono h (fun r s' z => ?_) fun _ _ e => e)
    obtain ⟨v, rfl, hq⟩ := z
    exact wpAny_pure hq
  · refine wpAny_bind (wpAny_pure ?_)
    simp only [Bool.false_eq_true, if_false]
    refine wpAny_bind (wpAny_mono h (fun r s' z => ?_) fun _ _ e => e)
    obtain ⟨v, rfl, hq⟩ := z
    exact wpAny_pure hq
/-- the right one's class stands below the left one's: it is asked first -/
theorem rc_right (hu : A.units < cLine) (X : K.In s.heap) (I : InstAt s.heap x ox C od) (J : InstAt s.heap y oy D od') (hne : C ≠ D) (hs : subIn K (.ref D) (.ref C) = some true)
    (h : wpAny (model prog w) A (tryCompare (.ref y) (cmpInfo op).2.2 (.ref x)) (fun r s' => match r with | some v => Q v s' | none => wpAny (model prog w) A (tryCompare (.ref x) (cmpInfo op).2.1 (.ref y)) (fun r s' => ∃ v, r = some v ∧ Q v s') E s') E s) : wpAny (model prog w) A (richCompare op (.ref x) (.ref y)) Q E s := by
  have hne' : (Value.ref C != Value.ref D) = true := by
    rw [bne, Bool.not_eq_true']
    exact Bool.eq_false_iff.mpr fun q => hne (Value.ref.inj (beq_iff_eq.mp q))
  unfold richCompare
  simp only [oneThing_ref]
  refine wpAny_holding (wpAny_bind (wpAny_cRoomFor hu ?_))
  refine wpAny_bind (I.type.here (wpAny_bind (J.type.here ?_)))
  rw [if_pos hne']
  refine wpAny_bind ((looks_subIn X hs).here ?_)
  rw [if_pos rfl]
  refine wpAny_bind (wpAny_mono h (fun r s' z => ?_) fun _ _ e => e)
  cases r with
  | some v => exact wpAny_bind (wpAny_rule (wpAny_pure z))
  | none =>
    refine wpAny_bind (wpAny_mono z (fun r s' z => ?_) fun _ _ e => e)
    obtain ⟨v, rfl, hq⟩ := z
    exact wpAny_pure hq
end
end
end PySem.W

/-! Ev16: the operators of the two own classes, as expressions. -/
namespace Ev
open PySem PySem.Spec PyProof.Rows L2
/-- a method that both classes have -/
structure OwnM (W : Wd) (nm : Str) (g : Addr) : Prop where
  at_ : ∀ c, c < 2 → PySem.W.findIn W.K (.ref (W.cl c)) nm = some (some (.ref g))
  fn : PySem.W.isFn W.K (.ref g) = true
  fi : PySem.W.fnIn W.K g = true
/-- the two classes: the second one stands below the first -/
structure OwnC (W : Wd) : Prop where
  self : ∀ c, c < 2 → PySem.W.selfFirst W.K (W.cl c) = true
  s10 : PySem.W.subIn W.K (.ref (W.cl 1)) (.ref (W.cl 0)) = some true
  s01 : PySem.W.subIn W.K (.ref (W.cl 0)) (.ref (W.cl 1)) = some false
theorem OwnC.ne {W : Wd} (C : OwnC W) : W.cl 0 ≠ W.cl 1 := fun e => by
  have h1 := C.s10
  have h2 := C.s01
  rw [e] at h1 h2
  rw [h1] at h2
  cases h2
/-- an operator of two objects -/
structure OwnB (W : Wd) (op : Operator) (g : Addr) : Prop where
  m : OwnM W (PySem.dunder op.info.2) g
  r : ∀ c, c < 2 → PySem.W.findIn W.K (.ref (W.cl c)) (dunderR op.info.2) = some none
  z : PySem.W.missIn W.K (W.cl 1) (dunderR op.info.2) = true
  l : (dunderR op.info.2).length ≤ 1000
/-- .. of an object and an int -/
structure OwnI (W : Wd) (op : Operator) (g : Addr) : Prop where
  m : OwnM W (PySem.dunder op.info.2) g
  r : ∀ c, c < 2 → PySem.W.findIn W.K (.ref (W.cl c)) (dunderR op.info.2) = some none
  i1 : (PySem.W.findIn W.K (.type "int") (PySem.dunder op.info.2)).isSome = true
  i2 : (PySem.W.findIn W.K (.type "int") (dunderR op.info.2)).isSome = true
  si : ∀ c, c < 2 → PySem.W.subIn W.K (.type "int") (.ref (W.cl c)) = some false
structure OwnE (W : Wd) (g : Addr) : Prop where
  m : OwnM W "__eq__" g
  ne : ∀ c, c < 2 → PySem.W.findIn W.K (.ref (W.cl c)) "__ne__" = some (some (.builtin "object.__ne__"))
  ob : ∀ c, c < 2 → PySem.W.subIn W.K (.ref (W.cl c)) (.type "object") = some true
structure OwnL (W : Wd) (g : Addr) : Prop where
  m : OwnM W "__le__" g
  ge : ∀ c, c < 2 → PySem.W.findIn W.K (.ref (W.cl c)) "__ge__" = some (some (.builtin "object.__ge__"))
  ob : ∀ c, c < 2 → PySem.W.subIn W.K (.ref (W.cl c)) (.type "object") = some true
section
variable {W : Wd} {E : XK} {X : Cx} {CX : CXT} {k : Nat} {g : Addr} {sp : Sp} {fs : List D → List Cell → R D}
theorem run_at {A : Around} {pins : List (Addr × Obj)} {σ : L2.St} {H : Hp} {s : Shared} {Q : VK} {us : List Value} {vs : List V} (F : FnP X.prog X.w X.K X.mg X.base CX k g sp) (hg : A.guards = some []) (hr : Room k A) (hf : A.frames = X.A.frames)
    (px : Passes CX X E) (I : Inv X pins σ H s) (r : Vals vs us) (h : sp vs H Q E) : wpAny (model X.prog X.w) A (call (.ref g) us) (EP X pins σ Q) X.xe s := by
  have e0 : Env0 X.prog X.w X.K X.mg X.base A X.stack s H := by
    have e := I.env0
    exact ⟨by rw [hf]; exact e.frames, e.mod, e.bs, e.bsz, e.funs, e.frf, e.hok, e.bare⟩
  refine wpAny_call (codeAny_mono (F A X.stack s H us vs Q E hg hr e0 r h) fun res s' z => ?_)
  rcases res with er | (u | _ | _ | _)
  · exact px pins σ H s er s' I z
  all_goals first
    | exact I.after z
    | exact z.elim
theorem ins_at {pins : List (Addr × Obj)} {σ : L2.St} {H : Hp} {s : Shared} {a C dx : Addr} {us : List (Str × V)} (I : Inv X pins σ H s) (h : H a = some (.ins C dx us)) : ∃ ox od, PySem.W.InstAt s.heap a ox C od ∧ ox.data = .plain := by
  obtain ⟨mA, O, _⟩ := ins_get I.hok h
  obtain ⟨od, J, _⟩ := O.look
  exact ⟨_, _, J, rfl⟩
/-- x is an object of one of the two classes -/
def InsRu (W : Wd) (H : Hp) (x : V) (c : Nat) : Prop := ∃ a dx us, x = .ref a ∧ c < 2 ∧ H a = some (.ins (W.cl c) dx us)
def rRu (W : Wd) (sp : Sp) (E : XK) : R2 := fun x y H Q => ∃ c c', InsRu W H x c ∧ InsRu W H y c' ∧ sp [x, y] H Q E
def rRuI (W : Wd) (sp : Sp) (E : XK) : R2 := fun x y H Q => ∃ c i, InsRu W H x c ∧ y = .int i ∧ sp [x, y] H Q E
/-- ==: the one of the class that stands below is asked first -/
def rRuE (W : Wd) (neg : Bool) (sp : Sp) (E : XK) : R2 := fun x y H Q => ∃ c c', InsRu W H x c ∧ InsRu W H y c' ∧ sp (if c = 0 ∧ c' = 1 then [y, x] else [x, y]) H (fun v H' => ∃ b, v = .bl b ∧ Q (.bl (if neg then !b else b)) H') E
theorem ep_bool {pins : List (Addr × Obj)} {σ : L2.St} {neg : Bool} {Q : VK} {u : Value} {s : Shared} (h : EP X pins σ (fun v H' => ∃ b, v = .bl b ∧ Q (.bl (if neg then !b else b)) H') u s) : ∃ b, u = .bool b ∧ EP X pins σ Q (.bool (if neg then !b else b)) s := by
  obtain ⟨v, H', I, r, b, rfl, q⟩ := h
  exact ⟨b, r, .bl _, H', I, rfl, q⟩
theorem op_ruE (hK : X.K = W.K) (C : OwnC W) (B : OwnE W g) (F : FnP X.prog X.w X.K X.mg X.base CX k g sp) (hG : X.A.guards = some []) (hr : Room (k + 1) X.A) (px : Passes CX X E) : OpR X (compareOp .Eq) (rRuE W false sp E) := by
  rintro pins s σ H x y v u Q I rx ry ⟨c, c', ⟨a, dx, us, rfl, hc, ha⟩, ⟨b, dy, ws, rfl, hc', hb⟩, h⟩
  cases rx
  cases ry
  obtain ⟨ox, od, J, _⟩ := ins_at I ha
  obtain ⟨oy, od', J', _⟩ := ins_at I hb
  have kin := I.kIn
  rw [hK] at kin
  have hu : X.A.units < cLine := by have := hr.un; omega
  have go : ∀ (p q : V) (pu qu : Value) (P : Value → Shared → Prop), RelV p pu → RelV q qu → sp [p, q] H (fun v H' => ∃ b, v = .bl b ∧ Q (.bl (if false then !b else b)) H') E → (∀ b s', EP X pins σ Q (.bool b) s' → P (.bool b) s') → wpAny (model X.prog X.w) X.A (call (.ref g) [pu, qu]) (PySem.W.CmpBack P) X.xe s := fun p q pu qu P r1 r2 h0 hP =>
    wpAny_mono (run_at F hG (hr.mono (Nat.le_succ _)) rfl px I (.cons r1 (.cons r2 .nil)) h0) (fun z s' q => by
      obtain ⟨b, rfl, q2⟩ := ep_bool q
      exact hP b s' q2) fun _ _ z => z
  show wpAny _ _ (richCompare .Eq _ _) _ _ _
  by_cases e : c = 0 ∧ c' = 1
  · obtain ⟨rfl, rfl⟩ := e
    rw [if_pos ⟨rfl, rfl⟩] at h
    exact PySem.W.rc_right hu kin J J' C.ne C.s10 (PySem.W.try_fn (Q := fun r s' => match r with | some v => EP X pins σ Q v s' | none => _) kin J' (B.m.at_ 1 (by decide)) B.m.fn (go (.ref b) (.ref a) _ _ _ rfl rfl h fun b s' q => q))
  · rw [if_neg e] at h
    have hn : PySem.W.notFirst W.K (W.cl c) (.ref (W.cl c')) = true := by
      unfold PySem.W.notFirst
      match c, c', hc, hc', e with
      | 0, 0, _, _, _ => simp
      | 1, 1, _, _, _ => simp
      | 1, 0, _, _, _ => rw [C.s01]; simp
      | 0, 1, _, _, e => exact absurd ⟨rfl, rfl⟩ e
    exact PySem.W.rc_left hu kin J J'.type hn (PySem.W.try_fn kin J (B.m.at_ c hc) B.m.fn (go (.ref a) (.ref b) _ _ _ rfl rfl h fun b s' q => ⟨_, rfl, q⟩))
theorem op_ruN (hK : X.K = W.K) (C : OwnC W) (B : OwnE W g) (F : FnP X.prog X.w X.K X.mg X.base CX k g sp) (hG : X.A.guards = some []) (hr : Room (k + 1) X.A) (px : Passes CX X E) : OpR X (compareOp .NotEq) (rRuE W true sp E) := by
  rintro pins s σ H x y v u Q I rx ry ⟨c, c', ⟨a, dx, us, rfl, hc, ha⟩, ⟨b, dy, ws, rfl, hc', hb⟩, h⟩
  cases rx
  cases ry
  obtain ⟨ox, od, J, _⟩ := ins_at I ha
  obtain ⟨oy, od', J', _⟩ := ins_at I hb
  have kin := I.kIn
  rw [hK] at kin
  have hu : X.A.units + 1 < cLine := by have := hr.un; omega
  have go : ∀ (p q : V) (pu qu : Value) (P : Bool → Shared → Prop), RelV p pu → RelV q qu → sp [p, q] H (fun v H' => ∃ b, v = .bl b ∧ Q (.bl (if true then !b else b)) H') E → (∀ b s', EP X pins σ Q (.bool (!b)) s' → P b s') → wpAny (model X.prog X.w) X.A.in1 (call (.ref g) [pu, qu]) (PySem.W.BoolBack P) X.xe s := fun p q pu qu P r1 r2 h0 hP =>
    wpAny_mono (run_at (A := X.A.in1) F hG hr.in1 rfl px I (.cons r1 (.cons r2 .nil)) h0) (fun z s' q => by
      obtain ⟨b, rfl, q2⟩ := ep_bool q
      exact hP b s' q2) fun _ _ z => z
  show wpAny _ _ (richCompare .NotEq _ _) _ _ _
  by_cases e : c = 0 ∧ c' = 1
  · obtain ⟨rfl, rfl⟩ := e
    rw [if_pos ⟨rfl, rfl⟩] at h
    exact PySem.W.rc_right (by omega) kin J J' C.ne C.s10 (PySem.W.try_ne (Q := fun r s' => match r with | some v => EP X pins σ Q v s' | none => _) hu kin J' (B.ne 1 (by decide)) (B.ob 1 (by decide)) (B.m.at_ 1 (by decide)) B.m.fn (go (.ref b) (.ref a) _ _ _ rfl rfl h fun b s' q => q))
  · rw [if_neg e] at h
    have hn : PySem.W.notFirst W.K (W.cl c) (.ref (W.cl c')) = true := by
      unfold PySem.W.notFirst
      match c, c', hc, hc', e with
      | 0, 0, _, _, _ => simp
      | 1, 1, _, _, _ => simp
      | 1, 0, _, _, _ => rw [C.s01]; simp
      | 0, 1, _, _, e => exact absurd ⟨rfl, rfl⟩ e
    exact PySem.W.rc_left (by omega) kin J J'.type hn (PySem.W.try_ne hu kin J (B.ne c hc) (B.ob c hc) (B.m.at_ c hc) B.m.fn (go (.ref a) (.ref b) _ _ _ rfl rfl h fun b s' q => ⟨_, rfl, q⟩))
/-- value in o -/
def rRuIn (W : Wd) (neg : Bool) (sp : Sp) (E : XK) : R2 := fun x y H Q => ∃ c, InsRu W H y c ∧ sp [y, x] H (fun v H' => ∃ b, v = .bl b ∧ Q (.bl (if neg then !b else b)) H') E
theorem op_ruIn (hK : X.K = W.K) (B : OwnM W "__contains__" g) (F : FnP X.prog X.w X.K X.mg X.base CX k g sp) (hG : X.A.guards = some []) (hr : Room k X.A) (px : Passes CX X E) : OpR X (compareOp .In) (rRuIn W false sp E) := by
  rintro pins s σ H x y v u Q I rx ry ⟨c, ⟨a, dx, us, rfl, hc, ha⟩, h⟩
  cases ry
  obtain ⟨ox, od, J, _⟩ := ins_at I ha
  obtain ⟨m, hF⟩ := I.fr
  have kin := I.ok.mod.kin
  rw [hK] at kin
  exact PySem.W.in_K hF kin J (B.at_ c hc) B.fn (wpAny_mono (run_at F hG hr rfl px I (.cons (a := V.ref a) (F := RelV) rfl (.cons rx .nil)) h) (fun z s' q => by
    obtain ⟨b, rfl, q2⟩ := ep_bool q
    exact wpAny_truthy_bool q2) fun _ _ z => z)
theorem op_ruNin (hK : X.K = W.K) (B : OwnM W "__contains__" g) (F : FnP X.prog X.w X.K X.mg X.base CX k g sp) (hG : X.A.guards = some []) (hr : Room k X.A) (px : Passes CX X E) : OpR X (compareOp .NotIn) (rRuIn W true sp E) := by
  rintro pins s σ H x y v u Q I rx ry ⟨c, ⟨a, dx, us, rfl, hc, ha⟩, h⟩
  cases ry
  obtain ⟨ox, od, J, _⟩ := ins_at I ha
  obtain ⟨m, hF⟩ := I.fr
  have kin := I.ok.mod.kin
  rw [hK] at kin
  exact PySem.W.notIn_K hF kin J (B.at_ c hc) B.fn (wpAny_mono (run_at F hG hr rfl px I (.cons (a := V.ref a) (F := RelV) rfl (.cons rx .nil)) h) (fun z s' q => by
    obtain ⟨b, rfl, q2⟩ := ep_bool q
    exact wpAny_truthy_bool q2) fun _ _ z => z)
/-- o[i] -/
def rRuX (W : Wd) (sp : Sp) (E : XK) : R2 := fun x y H Q => ∃ c, InsRu W H x c ∧ sp [x, y] H Q E
/-- len(o) -/
def rRuLen (W : Wd) (sp : Sp) (E : XK) : List V → Hp → VK → Prop := fun xs H Q => ∃ x c, xs = [x] ∧ InsRu W H x c ∧ sp [x] H (fun v H' => ∃ n, v = .int n ∧ (0 ≤ n ∧ n < 2 ^ 63) ∧ Q (.int n) H') E
theorem call_ruLen (hK : X.K = W.K) (B : OwnM W "__len__" g) (F : FnP X.prog X.w X.K X.mg X.base CX k g sp) (hG : X.A.guards = some []) (hr : Room (k + 1) X.A) (px : Passes CX X E) : CallR X (.builtin "len") (rRuLen W sp E) := by
  rintro pins s σ H xs us Q I r ⟨x, c, ex, ⟨a, dx, ws, rfl, hc, ha⟩, h⟩
  subst ex
  obtain ⟨u, rfl, rx⟩ := vals1 r
  cases rx
  obtain ⟨ox, od, J, _⟩ := ins_at I ha
  obtain ⟨m, hF⟩ := I.fr
  have kin := I.ok.mod.kin
  rw [hK] at kin
  exact PySem.W.len_K hF kin J (B.at_ c hc) B.fn (wpAny_mono (run_at (A := X.A.in1) F hG hr.in1 rfl px I (.cons (a := V.ref a) (F := RelV) rfl .nil) h) (fun z s' q => by
    obtain ⟨v, H', I', rv, n, rfl, hn, q⟩ := q
    obtain ⟨t, rfl⟩ := rv
    exact ⟨hn, .int n, H', I'.tok _, ⟨_, rfl⟩, q⟩) fun _ _ z => z)
end
end Ev

/-! Ev17: the operators of the two own classes in the evaluator. -/
namespace Ev
open PySem PySem.Spec PyProof.Rows L2
def isRu : D → Bool
  | .ob c _ => decide (c < 2)
  | _ => false
def isNu : D → Bool
  | .int _ => true
  | _ => false
def cOf : D → Nat
  | .ob c _ => c
  | _ => 0
def asBl (neg : Bool) (r : R D) : R D := r.bind fun d g => match d with
  | .bl b => .ok (.bl (if neg then !b else b)) g
  | _ => .bad
def two (k : D → D → List Cell → R D) (a b : M D) : M D := fun e g => (a e g).bind fun x g1 => (b e g1).bind fun y g2 => k x y g2
def kRu (f : List D → List Cell → R D) : D → D → List Cell → R D := fun x y g => if isRu x = true ∧ isRu y = true then f [x, y] g else .bad
def kRuI (f : List D → List Cell → R D) : D → D → List Cell → R D := fun x y g => if isRu x = true ∧ isNu y = true then f [x, y] g else .bad
def kRuE (neg : Bool) (f : List D → List Cell → R D) : D → D → List Cell → R D := fun x y g => if isRu x = true ∧ isRu y = true then asBl neg (f (if cOf x = 0 ∧ cOf y = 1 then [y, x] else [x, y]) g) else .bad
def kRuIn (neg : Bool) (f : List D → List Cell → R D) : D → D → List Cell → R D := fun x y g => if isRu y = true then asBl neg (f [y, x] g) else .bad
def kRuX (f : List D → List Cell → R D) : D → D → List Cell → R D := fun x y g => if isRu x = true then f [x, y] g else .bad
def ruLen (f : List D → List Cell → R D) (m : M (List D)) : M D := fun e g => (m e g).bind fun ds g1 => match ds with
  | [x] => if isRu x = true then (f [x] g1).bind fun d g2 => match d with
    | .int n => if 0 ≤ n ∧ n < 9223372036854775808 then .ok (.int n) g2 else .bad
    | _ => .bad
    else .bad
  | _ => .bad
def ruCall (n : Nat) (f : List D → List Cell → R D) (mo : M D) (m : M (List D)) : M D := fun e g => (mo e g).bind fun x g1 => if isRu x = true then (m e g1).bind fun ds g2 => if (x :: ds).length = n then f (x :: ds) g2 else .bad else .bad
section
variable {W : Wd} {E : XK} {X : Cx} {CX : CXT} {k : Nat} {g : Addr} {fs : List D → List Cell → R D} {a b : Expr} {ma mb : M D} {pos : Pos} {F : Fb} {H : Hp}
theorem insRu_of {x : D} {v : V} (h : Rep W F H x v) (e : isRu x = true) : InsRu W H v (cOf x) := by
  cases x with
  | ob c d =>
    obtain ⟨a, dx, u, h1, h2, _, h3⟩ := h
    exact ⟨a, dx, _, h1, of_decide_eq_true e, h2⟩
  | _ => cases e
theorem r_two {r : R2} {q : D → D → List Cell → R D} (hq : ∀ (F : Fb) (H : Hp) (g : List Cell) (x y : D) (v u : V) (Q : VK), Cells W F H g → Rep W F H x v → Rep W F H y u → Post W E F H (q x y g) (fun d _ F' H' => ∀ w, Rep W F' H' d w → Q w H') → r v u H Q)
    {σ : L2.St} {H : Hp} {Q : VK} (h : tM W E (two q ma mb) σ H Q) : tOp r (tM W E ma) (tM W E mb) σ H Q := by
  obtain ⟨F, e, g, S, p⟩ := h
  refine ⟨F, e, g, S, (Post.bind p).mono fun x g1 F1 H1 x1 c1 p1 v rx => ⟨F1, e, g1, S.step x1 c1, (Post.bind p1).mono fun y g2 F2 H2 x2 c2 p2 u ry => ?_⟩⟩
  exact hq F2 H2 g2 x y v u Q c2 (rx.up x2.up) ry p2
theorem post_ite {α : Type} {c : Prop} [Decidable c] {r : R α} {g : List Cell} {kk : α → List Cell → Fb → Hp → Prop} (p : Post W E F H (if c then r else .bad) kk) : c ∧ Post W E F H r kk := by
  split at p
  · rename_i h; exact ⟨h, p⟩
  · exact p.elim
theorem post_bl {neg : Bool} {r : R D} {Q : VK} (p : Post W E F H (asBl neg r) fun d _ F' H' => ∀ w, Rep W F' H' d w → Q w H') : Post W E F H r fun d _ F' H' => ∀ w, Rep W F' H' d w → ∃ b, w = .bl b ∧ Q (.bl (if neg then !b else b)) H' := by
  refine (Post.bind p).mono fun d g1 F1 H1 x1 c1 p1 w rw => ?_
  cases d <;> try exact p1.elim
  exact ⟨_, rw, p1 F1 H1 .refl c1 _ (rep_bl _)⟩
theorem sp2 {g : List Cell} {x y : D} {v u : V} {Q : VK} (c : Cells W F H g) (rx : Rep W F H x v) (ry : Rep W F H y u) (p : Post W E F H (fs [x, y] g) fun d _ F' H' => ∀ w, Rep W F' H' d w → Q w H') : spEv W 2 fs [v, u] H Q E :=
  sp_in (n := 2) (ds := [x, y]) c ⟨_, _, rfl, rx, _, _, rfl, ry, rfl⟩ (by rw [if_pos (show [x, y].length = 2 from rfl)]; exact p)
/-- the comparisons -/
structure CmpRu (W : Wd) (E : XK) (X : Cx) (op : CmpOp) (q : D → D → List Cell → R D) : Prop where
  ex : ∃ r, OpR X (compareOp op) r ∧ ∀ (F : Fb) (H : Hp) (g : List Cell) (x y : D) (v u : V) (Q : VK), Cells W F H g → Rep W F H x v → Rep W F H y u → Post W E F H (q x y g) (fun d _ F' H' => ∀ w, Rep W F' H' d w → Q w H') → r v u H Q
theorem c_ruE {neg : Bool} (hK : X.K = W.K) (C : OwnC W) (B : OwnE W g) (M : FnP X.prog X.w X.K X.mg X.base CX k g (spEv W 2 fs)) (hG : X.A.guards = some []) (hr : Room (k + 1) X.A) (px : Passes CX X E) : CmpRu W E X (if neg then .NotEq else .Eq) (kRuE neg fs) := by
  have h0 : OpR X (compareOp (if neg then .NotEq else .Eq)) (rRuE W neg (spEv W 2 fs) E) := by
    cases neg
    · exact op_ruE hK C B M hG hr px
    · exact op_ruN hK C B M hG hr px
  refine ⟨_, h0, fun F H g x y v u Q c rx ry p => ?_⟩
  obtain ⟨⟨h1, h2⟩, p⟩ := post_ite (g := g) p
  have p := post_bl p
  refine ⟨_, _, insRu_of rx h1, insRu_of ry h2, ?_⟩
  split at p
  · rename_i e
    rw [if_pos e]
    exact sp2 c ry rx p
  · rename_i e
    rw [if_neg e]
    exact sp2 c rx ry p
theorem c_ruIn {neg : Bool} (hK : X.K = W.K) (B : OwnM W "__contains__" g) (M : FnP X.prog X.w X.K X.mg X.base CX k g (spEv W 2 fs)) (hG : X.A.guards = some []) (hr : Room k X.A) (px : Passes CX X E) : CmpRu W E X (if neg then .NotIn else .In) (kRuIn neg fs) := by
  have h0 : OpR X (compareOp (if neg then .NotIn else .In)) (rRuIn W neg (spEv W 2 fs) E) := by
    cases neg
    · exact op_ruIn hK B M hG hr px
    · exact op_ruNin hK B M hG hr px
  refine ⟨_, h0, fun F H g x y v u Q c rx ry p => ?_⟩
  obtain ⟨h1, p⟩ := post_ite (g := g) p
  exact ⟨_, insRu_of ry h1, sp2 c ry rx (post_bl p)⟩
theorem ev_cmpRu {op : CmpOp} {q : D → D → List Cell → R D} (h : CmpRu W E X op q) (ha : PE X a (tM W E ma)) (hb : PE X b (tM W E mb)) (hm : behindInMarks op b = false := by rfl) : PE X (.Compare a [op] [b] pos) (tM W E (two q ma mb)) := by
  obtain ⟨r, ho, hq⟩ := h.ex
  exact weakE (pe_cmpR ho ha hb hm) fun _ _ _ h => r_two hq h
theorem ev_cmpRuT {op : CmpOp} {q : D → D → List Cell → R D} (h : CmpRu W E X op q) (ha : PE X a (tM W E ma)) (hb : PE X b (tM W E mb)) (hm : behindInMarks op b = false := by rfl) : PT X (.Compare a [op] [b] pos) (tB W E (boolM (two q ma mb))) := by
  obtain ⟨r, ho, hq⟩ := h.ex
  exact weakT (pt_cmpR ho ha hb hm) fun _ _ _ hh => r_two hq (r_bool (fun _ _ _ => True) hh)
theorem ev_ruLen {x : Str} {p1 : Pos} {m : M (List D)} (hK : X.K = W.K) (B : OwnM W "__len__" g) (M : FnP X.prog X.w X.K X.mg X.base CX k g (spEv W 1 fs)) (hG : X.A.guards = some []) (hr : Room (k + 1) X.A) (px : Passes CX X E) (hg : Gl X x) (hm : X.mg x = none) (hv : bootBuiltins x = some (.builtin "len"))
    (ha : PA X [a] (tL W E m)) (hn : x ≠ "__name__" := by decide) (hdb : (x == ("__debug__" : Str)) = false := by decide) (he : starEach [a] X.env = (false, eval a X.env) :: starEach [] X.env := by rfl) (hpl : (backTo pos (starEach [] X.env)).any (·.1) = false := by rfl) :
    PE X (.Call (.Name x p1) [a] [] pos) (tM W E (ruLen fs m)) :=
  weakE (pe_callB (call_ruLen hK B M hG hr px) hg hm hv ha hn hdb he hpl) fun σ H Q ⟨F, e, g, S, p⟩ => by
    refine ⟨F, e, g, S, (Post.bind p).mono fun ds g1 F1 H1 x1 c1 p1 vs rr => ?_⟩
    match ds, p1, rr with
    | [x], p1, rr =>
      obtain ⟨v, r, rfl, rx, r0⟩ := rr
      cases (show r = [] from r0)
      obtain ⟨h1, p1⟩ := post_ite (g := g1) p1
      refine ⟨v, _, rfl, insRu_of rx h1, sp_in (n := 1) (ds := [x]) c1 (RepL.one rx) ?_⟩
      rw [if_pos (show [x].length = 1 from rfl)]
      refine (Post.bind p1).mono fun d g2 F2 H2 x2 c2 p2 w rw => ?_
      cases d <;> try exact p2.elim
      obtain ⟨h2, p2⟩ := post_ite (g := g2) p2
      exact ⟨_, rw, by omega, p2 F2 H2 .refl c2 _ (rep_int _)⟩
    | [], p1, rr => exact p1.elim
    | _ :: _ :: _, p1, rr => exact p1.elim
/-! ### isinstance(x, C), C an own class -/
structure OwnI2 (W : Wd) (n : Nat) : Prop where
  cls : ∀ c, c < 2 → Cls W.K (W.cl c)
  at_ : ∀ c, c < 2 → PySem.W.findIn W.K (.ref (W.cl c)) "__class__" = some (some (.builtin "object.__class__"))
  sp : PySem.W.specialIn W.K (.builtin "object.__class__") "__get__" = some (some (.builtin "getset_descriptor.__get__"))
  tk : PySem.W.takesIn W.K (.builtin "object.__class__") = some true
  mro : ∀ c, c < 2 → PySem.W.mroIn W.K (W.cl c) (.type "object") = some true
  yes : ∀ c, c < 2 → PySem.W.kitOne W.K (.ref (W.cl c)) (.ref (W.cl n)) = some (decide (n ≤ c))
  no : ∀ T, T ∈ ["NoneType", "bool", "int", "str", "tuple", "list", "dict"] → PySem.W.kitOne W.K (.type T) (.ref (W.cl n)) = some false
def isiRu (n : Nat) : D → List Cell → Option D := fun d _ => match d with
  | .ob c _ => if c < 2 then some (.bl (decide (n ≤ c))) else none
  | d => match tyD d with
    | some _ => some (.bl false)
    | none => none
theorem tyD_in {d : D} {T : String} (h : tyD d = some T) : T ∈ (["NoneType", "bool", "int", "str", "tuple", "list", "dict"] : List String) := by
  cases d <;> cases h <;> decide
theorem ev_isiRu {n : Nat} {x y : Str} {e : Expr} {me : M D} {p1 p2 : Pos} (hK : X.K = W.K) (B : OwnI2 W n) (hg : Gl X x) (hx : x = ("isinstance" : Str)) (hm : X.mg x = none) (hgT : Gl X y) (hmT : X.mg y = some (.ref (W.cl n))) (hv : bootBuiltins x = some (.builtin "isinstance")) (he : PE X e (tM W E me)) (hn : x ≠ "__name__" := by decide)
    (hd : (x == ("__debug__" : Str)) = false := by decide) (hdT : (y == ("__debug__" : Str)) = false := by decide)
    (s1 : starEach [e, .Name y p2] X.env = (false, eval e X.env) :: starEach [.Name y p2] X.env := by rfl) (s2 : starEach [.Name y p2] X.env = (false, eval (.Name y p2) X.env) :: starEach [] X.env := by rfl) (hpl : (backTo pos (starEach [.Name y p2] X.env)).any (·.1) = false := by rfl) :
    PE X (.Call (.Name x p1) [e, .Name y p2] [] pos) (tM W E (unM (isiRu n) me)) := by
  refine weakE (pe_callB call_isi hg hm hv (pa_cons he (pa_cons (pe_glob (v := .ref (W.cl n)) hgT hmT rfl hdT) pa_nil s2) s1) hn hd s1 hpl) fun σ H Q ⟨F, en, g, S, p⟩ => ?_
  refine ⟨F, en, g, S, (Post.bind p).mono fun x g1 F1 H1 x1 c1 p1 v r1 => ?_⟩
  obtain ⟨d, hd, kk⟩ := post_of p1
  have fin : ∀ T, tyD x = some T → d = .bl false → rIsi X.K [v, .ref (W.cl n)] H1 Q := fun T q e => by
    subst e
    exact ⟨v, .ref (W.cl n), .type T, .ref (W.cl n), false, rfl, .own _, by rw [hK]; exact ty_of r1 q, by rw [hK]; exact B.no T (tyD_in q), kk F1 H1 .refl c1 _ (rep_bl _)⟩
  cases x with
  | ob c x =>
    have hd : (if c < 2 then some (D.bl (decide (n ≤ c))) else none) = some d := hd
    split at hd
    · rename_i hc
      cases hd
      obtain ⟨a, dx, u, e1, h2, _, h3⟩ := r1
      subst e1
      exact ⟨.ref a, .ref (W.cl n), .ref (W.cl c), .ref (W.cl n), _, rfl, .own _, by rw [hK]; exact .base (.ins h2 (B.cls c hc) (B.at_ c hc) B.sp B.tk (B.mro c hc)), by rw [hK]; exact B.yes c hc, kk F1 H1 .refl c1 _ (rep_bl _)⟩
    · cases hd
  | non => exact fin _ rfl (by cases hd; rfl)
  | bl b => exact fin _ rfl (by cases hd; rfl)
  | int b => exact fin _ rfl (by cases hd; rfl)
  | str b => exact fin _ rfl (by cases hd; rfl)
  | tup b => exact fin _ rfl (by cases hd; rfl)
  | lst b => exact fin _ rfl (by cases hd; rfl)
  | sc b => exact fin _ rfl (by cases hd; rfl)
  | g b => cases hd
  | cl b => cases hd
  | dct b => cases hd
  | exc _ _ => cases hd
  | da b => exact fin _ rfl (by cases hd; rfl)
end
end Ev

/-! Ev18: an __init__ that calls super().__init__(0) first, then sets the one field. -/
namespace Ev
open PySem PySem.Spec PyProof.Rows L2 NdefX
/-- a def that closes over its class -/
abbrev fnOfS (name qual : Str) (st : Stmt) (cc cda : Addr) : NF := ⟨name, qual, defArgs st, defBody st, defScope st, [("__class__", cc)], cda⟩
def superM (N : Nat) (fi : List D → List Cell → R D) (m : M D) : List D → List Cell → R D := fun ds g => match ds with
  | [d] => (fi [.int 0] g).noex.bind fun _ g1 => (m (inE N [d]) g1).noex
  | _ => .bad
section
variable {W : Wd} {E : XK} {X : Cx} {k : Nat} {f fI cc cda x dx : Addr} {fi : List D → List Cell → R D} {fd : FuncData} {ar : Arg} {body : List Stmt} {p0 p1 p2 p3 p4 p5 : Pos} {j : Nat} {oc cl ccl : Value} {od cld cdd : Option Addr} {osl csl ccs : Array (Option Value)} {vs : Array Value} {file : Str} {tf : Tok} {cd : ClassData}
  {σ : L2.St} {H : Hp} {s : Shared} {Qn : Hp → Prop} {pl : Sem Bool}
end
section
variable {P : Program} {w : World} {mg : Str → Option Value} {base : Heap} {W : Wd} {k : Nat} {f fI cc cda : Addr} {fi : List D → List Cell → R D} {m : M D} {name qual pv fld : Str} {st : Stmt} {N : List Str} {e : Expr} {p0 p1 p2 p3 p4 p5 p6 p7 p8 : Pos} {j : Nat}
  {dV kV doc pm ct oc cl ccl : Value} {an od cld cdd : Option Addr} {osl csl ccs : Array (Option Value)} {vs : Array Value} {file : Str} {tf : Tok} {cd : ClassData}
end
end Ev
namespace Ev
open PySem PySem.Spec PyProof.Rows L2 NdefX
/-- what of the program an __init__ with super() asks -/
structure SupP (P : Program) (file : Str) : Prop where
  fl : ((P.main.file : Str) == file) = true
  tp : (P.main.scope.names.lookup ("super" : Str)).isSome = false
/-- a class's __init__ that closes over its class -/
structure DmS (W : Wd) (mg : Str → Option Value) (x qual : Str) (st : Stmt) (fI : Addr) where
  f : Addr
  cc : Addr
  cda : Addr
  file : Str
  fd : FuncData
  dt : ∃ (oc cl ccl doc pm ct dV kV : Value) (od cld cdd an : Option Addr) (osl csl ccs : Array (Option Value)) (vs : Array Value) (tf : Tok) (cd : ClassData),
    fd = PySem.W.fnX x qual (defArgs st) (defBody st) (defScope st) [("__class__", cc)] dV kV doc pm an (.ref cda) ct ∧
    W.K.lookup f = some ⟨oc, od, .func fd, osl⟩ ∧ W.K.lookup cda = some ⟨ccl, cdd, .fields vs, ccs⟩ ∧ vs[2]? = some (.str file tf) ∧
    W.K.lookup cc = some ⟨cl, cld, .cell (some (.ref (W.cl 1))), csl⟩ ∧ PySem.W.clsIn W.K (W.cl 1) = some cd
  hcd : PySem.W.codeIn W.K (.ref cda) qual = true
  hsub : PySem.W.subIn W.K (.ref (W.cl 1)) (.ref (W.cl 1)) = some true
  hsuper : mg "super" = none
  hm : PySem.W.ks_superIn W.K (W.cl 1) (W.cl 1) "__init__" = some (some (.ref fI))
  ht : PySem.W.typeIn W.K (.ref fI) = some (.type "function")
  hfn : PySem.W.fnIn W.K fI = true
  ho : PySem.W.nsIn W.K PySem.cStatics "thirdparty.any" = some none
  hb : ∀ a b : Value, ∀ pv, ((defArgs st).posonlyargs ++ (defArgs st).args).map (·.arg) = [("self" : Str), pv] → bindArgs fd ⟨[a, b], []⟩ = pure [(("self" : Str), a), (pv, b)]
section
variable {P : Program} {w : World} {mg : Str → Option Value} {base : Heap} {W : Wd} {k : Nat} {fI : Addr} {fi : List D → List Cell → R D} {m : M D} {name qual pv fld : Str} {st : Stmt} {N : List Str} {e : Expr} {p0 p1 p2 p3 p4 p5 p6 p7 p8 : Pos} {j : Nat}
end
end Ev

/-! Ev19: a, b, c = x, y, z. -/
namespace Ev
open PySem PySem.Spec PyProof.Rows L2
section
variable {W : Wd} {E : XK} {X : Cx} {a b c : Expr} {ma mb mc : M D} {x y z : Str} {p1 p2 p3 pt pt2 pos : Pos} {kt k2 : Nat}
def par3S (i j l : Nat) (m1 m2 m3 : M D) : MS := fun e g => (m1 e g).toS fun x g1 => (m2 e g1).toS fun y g2 => (m3 e g2).toS fun z g3 => .nx (((e.set i (.v x)).set j (.v y)).set l (.v z)) g3
end
end Ev

/-! Ev20: a def of the module with *rest as its last parameter, called by places -/
namespace Ev
open PySem PySem.Spec PyProof.Rows L2
/-- m items go to names, the others into one tuple -/
def starN (m : Nat) (fs : List D → List Cell → R D) : List D → List Cell → R D := fun ds g => if (ds.drop m).length ≤ 16777216 then fs (ds.take m ++ [.tup (ds.drop m)]) g else .bad
theorem RepL.split {W : Wd} {F : Fb} {H : Hp} : ∀ {ds : List D} {vs : List V} (m : Nat), RepL W F H ds vs → RepL W F H (ds.take m) (vs.take m) ∧ RepL W F H (ds.drop m) (vs.drop m)
  | [], _, m, r => by
    have r : _ = [] := r
    subst r
    rw [List.take_nil, List.take_nil, List.drop_nil, List.drop_nil]
    exact ⟨(rfl : ([] : List V) = []), (rfl : ([] : List V) = [])⟩
  | _ :: _, _, 0, r => ⟨(rfl : ([] : List V) = []), r⟩
  | _ :: _, _, m + 1, ⟨v, rest, e, h1, h2⟩ => by
    subst e
    obtain ⟨k1, k2⟩ := RepL.split m h2
    exact ⟨⟨v, _, rfl, h1, k1⟩, k2⟩
/-- a def of the module with *rest -/
structure DfS (K : PySem.W.Frag) (mg : Str → Option Value) (x : Str) (st : Stmt) where
  f : Addr
  fd : FuncData
  fn : Fun K x x st f fd
  gl : mg x = some (.ref f)
end Ev

/-! Ev21: max(xs, default=None) of a list of ints -/
namespace Ev
open PySem PySem.Spec PyProof.Rows L2
def maxDF : List D → List Cell → Option D := fun ds _ => match ds with
  | [.lst xs] => match intsOf xs with
    | some (n :: ns) => some (.int (maxI n ns))
    | some [] => some .non
    | none => none
  | _ => none
def rMaxK (K : PySem.W.Frag) : List V → List V → Hp → VK → Prop := fun vs zs H Q => ∃ (a : Addr) (ns : List Int), vs = [V.ref a] ∧ zs = [V.non] ∧ SqL K H a (ns.map V.int) ∧ (ns = [] → Q .non H) ∧ ∀ n r, ns = n :: r → Q (.int (maxI n r)) H
section
variable {W : Wd} {E : XK} {X : Cx} {k : Nat} {mr : M (List D)} {a : Expr} {p1 pos kp q : Pos} {j : Nat}
end
end Ev

/-! Ev22: a, b, c = [], y, z: the first a list of one's own. -/
namespace Ev
open PySem PySem.Spec PyProof.Rows L2
section
variable {W : Wd} {E : XK} {X : Cx} {a b c : Expr} {mr : M (List D)} {mb mc : M D} {x y z : Str} {p1 p2 p3 pt pt2 pos : Pos} {kt k2 : Nat}
def par3F (i j l : Nat) (m1 : M (List D)) (m2 m3 : M D) : MS := fun e g => (m1 e g).toS fun x g1 => (m2 e g1).toS fun y g2 => (m3 e g2).toS fun z g3 => .nx (((e.set i (.own x)).set j (.v y)).set l (.v z)) g3
end
end Ev

/-! Ev23: x is y of two bools -/
namespace Ev
open PySem PySem.Spec PyProof.Rows L2
def isBD : D → D → List Cell → Option D := fun x y _ => match x, y with
  | .bl a, .bl b => some (.bl (a == b))
  | _, _ => none
def notBD : D → D → List Cell → Option D := fun x y _ => match x, y with
  | .bl a, .bl b => some (.bl (!(a == b)))
  | _, _ => none
section
variable {X : Cx} {W : Wd}
end
end Ev

/-! Ev24: two own lists at once; pops into targets; list.index; range of three; sorted ints; list(range). -/
namespace Ev
open PySem PySem.Spec PyProof.Rows L2
section
variable {W : Wd} {E : XK} {X : Cx} {a b c : Expr} {mr mr2 : M (List D)} {ma mb mc : M D} {x y z : Str} {p1 p2 p3 pt pt2 pos : Pos} {kt k2 : Nat}
/-- a, b = [], [] -/
def parFF (i j : Nat) (m1 m2 : M (List D)) : MS := fun e g => (m1 e g).toS fun x g1 => (m2 e g1).toS fun y g2 => .nx ((e.set i (.own x)).set j (.own y)) g2
/-- a, b = x, [] where a name is a cell: a pair is made -/
def asgTF (i j : Nat) (m1 : M D) (m2 : M (List D)) : MS := fun e g => (m1 e g).toS fun x g1 => (m2 e g1).toS fun y g2 => .nx ((e.set i (.v x)).set j (.own y)) g2
/-- targets = xs.pop() -/
def popT (i : Nat) (f : D → Env → Option Env) : MS := fun e g => match e[i]? with
  | some (.own ds) => match ds[ds.length - 1]? with
    | some d => match f d (e.set i (.own ds.dropLast)) with
      | some e1 => .nx e1 g
      | none => .bad
    | none => .bad
  | _ => .bad
/-! ### range of three -/
def rgcB (i j k : Int) : Bool := decide (k ≠ 0) && decide (k.natAbs < 1073741824) && Builtin.Range.small i j k
def rngC (i k : Int) (n : Nat) : List D := (List.range n).map fun t => .int (i + (t : Nat) * k)
def rng3It (m : M (List D)) : M (List D) := fun e g => (m e g).bind fun ds g1 => match ds with
  | [.int i, .int j, .int k] => if rgcB i j k = true ∧ 0 ≤ Builtin.Range.rangeSize i j k then .ok (rngC i k (Builtin.Range.rangeSize i j k).toNat) g1 else .bad
  | _ => .bad
/-! ### sorted ints -/
def insI (n : Int) : List Int → List Int
  | [] => [n]
  | m :: ms => if n ≤ m then n :: m :: ms else m :: insI n ms
def srtI : List Int → List Int
  | [] => []
  | n :: ns => insI n (srtI ns)
/-- sorted(xs), ints: a new list -/
def srtM (m : M (List D)) : M (List D) := fun e g => (m e g).bind fun ds g1 => match ds with
  | [.lst xs] => match intsOf xs with
    | some ns => .ok ((srtI ns).map .int) g1
    | none => .bad
  | _ => .bad
/-- list(range(a, b)): a new list -/
def lrgM (m1 m2 : M D) : M (List D) := fun e g => (m1 e g).bind fun x g1 => (m2 e g1).bind fun y g2 => match x, y with
  | .int i, .int j => if (-4611686018427387904 ≤ i ∧ i < 4611686018427387904) ∧ (-4611686018427387904 ≤ j ∧ j < 4611686018427387904) ∧ (j - i).toNat ≤ 16777216 then .ok (rngL i (j - i).toNat) g2 else .bad
  | _, _ => .bad
/-! ### list.index -/
def idxM (m1 m2 : M D) : M D := fun e g => (m1 e g).bind fun x g1 => match x with
  | .lst ds => (m2 e g1).bind fun y g2 => if flatD y = true ∧ ds.all flatD = true then R.of (((ds.map toV).findIdx? fun z => eqV z (toV y)).map fun j => D.int (j : Nat)) g2 else .bad
  | _ => .bad
theorem ev_index {ap : Pos} (hK : X.K = W.K) (ha : PE X a (tS W E ma)) (hb : PE X b (tM W E mb)) (hba : attributeBase a "index" X.env (eval a X.env) = eval a X.env := by rfl)
    (hfew : ((backTo pos (starEach [b] X.env)).all (fun x => !x.1) && (backToKw pos (keywordEach [] X.env)).all (fun x => x.1.isSome)
      && decide (([b] : List Expr).length + ([] : List Keyword).length + (if ([] : List Keyword).isEmpty then 0 else 1) < 30)) = true := by rfl)
    (hline : (ap.endLine == pos.line) = true := by rfl) (hs : starEach [b] X.env = (false, eval b X.env) :: starEach [] X.env := by rfl) (hplain : (backTo pos (starEach [] X.env)).any (·.1) = false := by rfl) :
    PE X (.Call (.Attribute a "index" ap) [b] [] pos) (tM W E (idxM ma mb)) :=
  weakE (pe_bm PySem.F.plainAttrs_list PySem.F.slot_list_index PySem.F.type_list_index mt_index ha (pa_cons hb pa_nil hs) hba hfew hline hs hplain) fun σ H Q ⟨F, e, g, S, p⟩ => by
    refine ⟨F, e, g, S, (Post.bind p).mono fun x g1 F1 H1 x1 c1 p1 v r1 => ?_⟩
    cases x <;> try exact p1.elim
    rename_i ds
    obtain ⟨q, us, rfl, t, nt, r⟩ := r1
    refine ⟨ty_list t, F1, e, g1, S.step x1 c1, (Post.bind p1).mono fun y g2 F2 H2 x2 c2 k2 u r2 => ?_⟩
    split at k2
    · rename_i hf
      obtain ⟨e2, f2⟩ := flat_of r2 hf.1
      obtain ⟨e3, f3⟩ := flats_of (r.up x2.up) hf.2
      cases hq : (ds.map toV).findIdx? (fun z => eqV z (toV y)) with
      | none => rw [hq] at k2; exact k2.elim
      | some j =>
        rw [hq] at k2
        rw [← e2, ← e3] at hq
        obtain ⟨hj, hz, hno⟩ := List.findIdx?_eq_some_iff_getElem.mp hq
        refine ⟨q, us, u, j, us[j], rfl, rfl, .inl (.of (x2.keep _ _ t nt)), f2, f3, List.getElem?_eq_getElem hj, hz, fun m z' hm hz' => ?_, k2 F2 H2 .refl c2 _ rfl⟩
        have := hno m hm
        rw [List.getElem?_eq_getElem (by omega)] at hz'
        cases hz'
        simpa using this
    · exact k2.elim
end
end Ev

/-! Ev25: a tuple times a small number. -/
namespace Ev
open PySem PySem.Spec PyProof.Rows L2
abbrev tupO (d : Option Addr) (its : Array Value) (n : Nat) (ss : Array (Option Value)) : Obj := { cls := .type "tuple", dict := d, data := .seq its n, slots := ss }
def rRep1 (K : PySem.W.Frag) : R2 := fun x y H Q => ∃ l xs, x = .ref l ∧ y = .int 1 ∧ SqT K H l xs ∧ Q (.ref l) H
def rRep0 (K : PySem.W.Frag) : R2 := fun x y H Q => ∃ l k xs, x = .ref l ∧ y = .int k ∧ SqT K H l xs ∧ xs ≠ [] ∧ k ≤ 0 ∧ -1000 ≤ k ∧ ∀ p, H p = none → Q (.ref p) (upd H p (.tup []))
section
variable {X : Cx}
end
def mulTD : D → D → List Cell → Option D := fun x y _ => match x, y with
  | .tup xs, .int k => if 0 < xs.length ∧ -1000 ≤ k ∧ k ≤ 1000 ∧ xs.length ≤ 1000 then some (.tup (List.replicate k.toNat xs).flatten) else none
  | _, _ => none
section
variable {W : Wd} {E : XK} {X : Cx}
variable {a b : Expr} {pos : Pos} {ma mb : M D}
end
end Ev

/-! Ev26: defs that need no look at what is under way; generators of flat values, drained by list(..). -/
namespace Ev
open PySem PySem.Spec PyProof.Rows L2
/-! ### xs[i] += e on an own list of whole numbers -/
def getLR : V → V → Hp → VK → Prop := fun o i H Q => ∃ p xs k x, o = .ref p ∧ i = .int k ∧ H p = some (.lst xs) ∧ 0 ≤ k ∧ xs[k.toNat]? = some x ∧ Q x H
theorem get_lst {X : Cx} : PGet X getLR := by
  intro pins s σ H o i ov iv Q I ro ri h
  obtain ⟨p, xs, k, x, rfl, rfl, hp, h0, hx, q⟩ := h
  cases ro
  obtain ⟨t, rfl⟩ := ri
  obtain ⟨its, n, r, ho, hz⟩ := I.lst hp
  obtain ⟨w, ew, rw'⟩ := r.get hx
  have hl := r.length
  have hn := line63
  have hk : k.toNat < xs.length := (List.getElem?_eq_some_iff.mp hx).1
  exact wpAny_getItem_list (items := its.toArray) ⟨_, ho, rfl, ⟨n, rfl⟩⟩ h0 (by omega) (by simpa using ew) ⟨x, H, I, rw', q⟩
def augIS (i : Nat) (mi m : M D) : MS := fun e g => match e[i]? with
  | some (.own ds) => (mi e g).toS fun k g1 => match k with
    | .int k => match ds[k.toNat]? with
      | some (.int a) => if 0 ≤ k then (m e g1).toS fun d g2 => match d with
        | .int b => .nx (e.set i (.own (ds.set k.toNat (.int (a + b))))) g2
        | _ => .bad else .bad
      | _ => .bad
    | _ => .bad
  | _ => .bad
section
variable {W : Wd} {E : XK} {X : Cx} {a b c : Expr} {pos p1 p2 : Pos} {ma mb mc : M D} {x : Str}
theorem es_augI (i : Nat) (hb : PE X b (tM W E mb)) (ha : PE X a (tM W E ma)) (hN : X.N[i]? = some x := by rfl) (hv : Vis X.env.scope x := by first | exact Or.inl rfl | exact Or.inr (Or.inl rfl) | exact Or.inr (Or.inr rfl)) (hd : (x == ("__debug__" : Str)) = false := by decide) (hcd : (x == ("__classdict__" : Str)) = false := by decide)
    (hs : ∀ ov iv new, augStore b ov iv new = (do holding [new, ov, iv] (setItem ov iv new); release [new, ov, iv] []; pure .next) := by intros; rfl) :
    PS X (.AugAssign (.Subscript (.Name x p1) b p2) .Add a pos) (tMS W E (augIS i mb ma)) :=
  weakS (ps_augS (pe_var hN hv hd hcd) hb get_lst ha ip_add set_list hs) fun D0 σ H ⟨F, e, g, S, p⟩ => by
    unfold augIS at p
    cases q : e[i]? with
    | none => rw [q] at p; exact p.elim
    | some sl =>
      rw [q] at p
      cases sl with
      | no => exact p.elim
      | v d => exact p.elim
      | own ds =>
        obtain ⟨l, vs, h1, h2, h3, h4⟩ := S.owns i ds q
        refine ⟨_, h1, F, e, g, S, p.toS.mono fun kd g1 F1 H1 x1 c1 k1 u ru => ?_⟩
        have S1 := S.step x1 c1
        obtain ⟨l1, vs1, z1, z2, z3, z4⟩ := S1.owns i ds q
        have e1 : l1 = l := by rw [h1] at z1; cases z1; rfl
        subst e1
        cases kd <;> try exact k1.elim
        rename_i kk
        cases q2 : ds[kk.toNat]? with
        | none => simp only [q2] at k1; exact k1.elim
        | some od =>
          simp only [q2] at k1
          cases od <;> try exact k1.elim
          rename_i av
          by_cases k0 : 0 ≤ kk
          · simp only [if_pos k0] at k1
            obtain ⟨w, ew, rw'⟩ := z4.get q2
            cases (show w = V.int av from rw')
            have hlt := (List.getElem?_eq_some_iff.mp q2).1
            refine ⟨l1, vs1, kk, _, rfl, ru, z3, k0, ew, F1, e, g1, S1, k1.toS.mono fun d g2 F2 H2 x2 c2 k2 v r => ?_⟩
            have S2 := S1.step x2 c2
            obtain ⟨l2, vs2, y1, y2, y3, y4⟩ := S2.owns i ds q
            have e2 : l2 = l1 := by rw [h1] at y1; cases y1; rfl
            subst e2
            cases d <;> try exact k2.elim
            rename_i bv
            refine ⟨av, bv, rfl, r, l2, vs2, kk, kk.toNat, rfl, ru, y3, ?_, ?_⟩
            · unfold ixN
              rw [if_pos k0, if_pos (by rw [← y4.length]; omega)]
            · obtain ⟨xs, S3⟩ := S2.wr q h1 (y4.set kk.toNat (rep_int (W := W) (F := F2) (H := H2) (av + bv)))
              exact k2 F2 σ _ xs S3
          · simp only [if_neg k0] at k1; exact k1.elim
end

/-! ### defs that need no look at what is under way: FnOk -/
def FnZ (P : Program) (w : World) (K : PySem.W.Frag) (mg : Str → Option Value) (base : Heap) (CX : CXT) (k : Nat) (f : Addr) (sp : Sp) : Prop :=
  ∀ (A : Around) (outer : List PySem.Env) (s : Shared) (H : Hp) (us : List Value) (vs : List V) (Q : VK) (E : XK), Room k A → Env0 P w K mg base A outer s H → Vals vs us → sp vs H Q E →
    codeAny (model P w) A (.call (.ref f) ⟨us, []⟩) (CR CX outer P w H s Q E) s
section
variable {P : Program} {w : World} {K : PySem.W.Frag} {mg : Str → Option Value} {base : Heap} {CX : CXT} {j k n : Nat} {f : Addr} {fd : FuncData} {ps : List Str} {sp : Sp}
theorem fnZ_of {name qual : Str} {prm : Arguments} {body : List Stmt} {sc : Scope} {dV kV doc pm cdv ct oc : Value} {an od : Option Addr} {osl : Array (Option Value)} {N : List Str}
    (lk : K.lookup f = some ⟨oc, od, .func (PySem.W.fnOf name qual prm body sc dV kV doc pm an cdv ct), osl⟩) (hcd : PySem.W.codeIn K cdv qual = true) (S : FnScope N ps sc) (ar : ∀ vs H Q E, sp vs H Q E → vs.length = ps.length)
    (hb : ∀ (A : Around) (out : List PySem.Env) (s : Shared) (H : Hp) (vs : List V) (Q : VK) (E : XK), Room k (A.deeper (envOfC qual sc s.heap.objs.size f cdv)) → sp vs H Q E →
      ∃ t, PSs (cxOf CX P w K mg base N qual sc f cdv A out s H E) body t ∧ t { nx := fun _ H' => Q .non H', rt := Q } (L2.start N vs) H) :
    FnOk P w K mg base CX (k + 1) f (PySem.W.fnOf name qual prm body sc dV kV doc pm an cdv ct) ps sp := by
  refine ⟨ar, fun A out s H args us vs Q E hr e0 bt rv h => ?_⟩
  have l0 := ar _ _ _ _ h
  have KX : K.In s.heap := e0.mod.kin.keeps fun b o q => (e0.bs b o q).1
  have lim : s.heap.NoLimit := e0.mod.nolimit.keeps fun b o q => (e0.bs b o q).1
  have kinds : ∀ z ∈ ps.zip us, sc.names.lookup z.1 = some .local ∨ (sc.names.lookup z.1 = some .cell ∧ ((cellsFrom (s.heap.objs.size + 1) sc.names []).lookup z.1).isSome = true) := by
    rintro ⟨n, v⟩ hz
    rcases S.par n (List.of_mem_zip hz).1 with q | q
    · exact .inl q
    · exact .inr ⟨q, PySem.W.cellsFrom_some _ _ _ (.inl q)⟩
  refine codeAny_call_function hr.depth (KX _ _ lk) rfl S.co S.gen rfl (PySem.W.codeRec_of KX hcd) (bt _ _ _ _ ?_)
  refine wpAny_newFunctionEnv_cells S.kind kinds fun env q s1 x => ?_
  subst q
  refine ⟨lim.keeps x.toInCall.keep, codeAny_func ?_⟩
  obtain ⟨t, ht, hq⟩ := hb A out s H vs Q E (hr.deeper _) h
  have I := inv_start (CX := CX) (P := P) (w := w) (K := K) (mg := mg) (base := base) (qual := qual) (f := f) (cd := cdv) (A := A) (outer := out) (E := E) S hr.hd e0 l0 rv x
  refine wpAny_mono (ht.run [] s1 (L2.start N vs) H _ I hq) (fun fl s' z => ?_) fun _ _ z => z
  cases fl with
  | next =>
    obtain ⟨_, H', J, z⟩ := z
    exact ⟨V.non, H', J.os, J.bare, J.base, J.hok, rfl, z⟩
  | ret u =>
    obtain ⟨v, _, H', J, r, z⟩ := z
    exact ⟨v, H', J.os, J.bare, J.base, J.hok, r, z⟩
  | brk => obtain ⟨_, _, _, z⟩ := z; exact z.elim
  | cont => obtain ⟨_, _, _, z⟩ := z; exact z.elim
theorem FnZ.of (G : FnOk P w K mg base CX k f fd ps sp) (bd : Binds K fd ps []) : FnZ P w K mg base CX k f sp := fun A out s H us vs Q E hr e0 r hs => by
  have l2 : us.length = ps.length := r.length.symm.trans (G.len _ _ _ _ hs)
  have b := bd s us (e0.mod.kin.keeps fun b o e => (e0.bs b o e).1) (by rw [List.append_nil]; exact l2)
  rw [List.append_nil] at b
  exact G.run A out s H ⟨us, []⟩ us vs Q E hr e0 b r hs
end
theorem fnZ_ev {P : Program} {w : World} {mg : Str → Option Value} {base : Heap} {W : Wd} {k n m : Nat} {x qual : Str} {st : Stmt} {f : Addr} {fd : FuncData} {N ps : List Str} {body : MS} (F : Fun W.K x qual st f fd) (S : FnScope N ps (defScope st)) (hn : ps.length = n) (hm : N.length = m)
    (h : ∀ (cdv : Value) (A : Around) (out : List PySem.Env) (s : Shared) (H : Hp) (E : XK), Room k (A.deeper (envOfC qual (defScope st) s.heap.objs.size f cdv)) →
      PSs (cxOf CX0 P w W.K mg base N qual (defScope st) f cdv A out s H E).nox (defBody st) (tMS W E body)) : FnOk P w W.K mg base CX0 (k + 1) f fd ps (spEv W n (fnM n m body)) := by
  subst hn hm
  obtain ⟨oc, od, kV, doc, pm, an, cdv, ct, osl, rfl, lk, hcd⟩ := F.ex
  refine fnZ_of lk hcd S (fun vs H Q E q => spEv_len q) fun A out s H vs Q E hr hsp => ⟨_, (h cdv A out s H E hr).nox, ?_⟩
  obtain ⟨nu, th, ds, g, c, r, hl, p⟩ := hsp
  have S0 := st_start (N := N) c r
  rw [hl] at S0
  unfold fnM at p
  rw [if_pos hl] at p
  exact ⟨_, _, g, S0, fn_post p⟩
section
variable {W : Wd} {E : XK} {X : Cx} {CX : CXT} {k n : Nat} {f g : Addr} {fd : FuncData} {ps : List Str} {fs : List D → List Cell → R D} {x : Str} {p pos : Pos} {a e : Expr} {es : List Expr} {mr : M (List D)} {sp : Sp}
theorem run_fnZ {A : Around} {pins : List (Addr × Obj)} {σ : L2.St} {H : Hp} {s : Shared} {Q : VK} {us : List Value} {vs : List V} (F : FnZ X.prog X.w X.K X.mg X.base CX k g sp) (hr : Room k A) (hf : A.frames = X.A.frames)
    (px : Passes CX X E) (I : Inv X pins σ H s) (r : Vals vs us) (h : sp vs H Q E) : wpAny (model X.prog X.w) A (call (.ref g) us) (EP X pins σ Q) X.xe s := by
  have e0 : Env0 X.prog X.w X.K X.mg X.base A X.stack s H := by
    have e := I.env0
    exact ⟨by rw [hf]; exact e.frames, e.mod, e.bs, e.bsz, e.funs, e.frf, e.hok, e.bare⟩
  refine wpAny_call (codeAny_mono (F A X.stack s H us vs Q E hr e0 r h) fun res s' z => ?_)
  rcases res with er | (u | _ | _ | _)
  · exact px pins σ H s er s' I z
  all_goals first
    | exact I.after z
    | exact z.elim
theorem ev_callZ (G : FnOk X.prog X.w X.K X.mg X.base CX k f fd ps (spEv W n fs)) (hr : Room k X.A) (hg : Gl X x) (hm : X.mg x = some (.ref f)) (hk : PySem.W.keepIn X.K (.ref f) = true) (bd : Binds X.K fd ps []) (px : Passes CX X E)
    (ha : PA X (e :: es) (tL W E mr)) (hdb : (x == ("__debug__" : Str)) = false := by decide) (he : starEach (e :: es) X.env = (false, eval e X.env) :: starEach es X.env := by rfl) (hpl : (backTo pos (starEach es X.env)).any (·.1) = false := by rfl) :
    PE X (.Call (.Name x p) (e :: es) [] pos) (tM W E (callM n fs mr)) := by
  refine ⟨fun pins s σ H Q I ⟨F, en, g, S, q⟩ => wpAny_Call_Name_kw (ld_glob I hg hm ?_ hdb)⟩
  refine PySem.W.callWith_K (h₀ := X.base) I.ok.mod.kin hk (thn (ha.run pos pins s σ H (fun vs H1 => spEv W n fs vs H1 Q E) I ⟨F, en, g, S, (Post.bind q).mono fun ds g1 F1 H1 x1 c1 k1 vs r => sp_in c1 r k1⟩) fun us s1 ⟨vs, H1, I1, r, q⟩ => ⟨I1.kIn, ?_⟩) he hpl
  exact run_fnZ (FnZ.of G bd) hr rfl px I1 r q
theorem call_ruLenZ (hK : X.K = W.K) (B : OwnM W "__len__" g) (F : FnZ X.prog X.w X.K X.mg X.base CX k g sp) (hr : Room (k + 1) X.A) (px : Passes CX X E) : CallR X (.builtin "len") (rRuLen W sp E) := by
  rintro pins s σ H xs us Q I r ⟨x, c, ex, ⟨a, dx, ws, rfl, hc, ha⟩, h⟩
  subst ex
  obtain ⟨u, rfl, rx⟩ := vals1 r
  cases rx
  obtain ⟨ox, od, J, _⟩ := ins_at I ha
  obtain ⟨m, hF⟩ := I.fr
  have kin := I.ok.mod.kin
  rw [hK] at kin
  exact PySem.W.len_K hF kin J (B.at_ c hc) B.fn (wpAny_mono (run_fnZ (A := X.A.in1) F hr.in1 rfl px I (.cons (a := V.ref a) (F := RelV) rfl .nil) h) (fun z s' q => by
    obtain ⟨v, H', I', rv, n, rfl, hn, q⟩ := q
    obtain ⟨t, rfl⟩ := rv
    exact ⟨hn, .int n, H', I'.tok _, ⟨_, rfl⟩, q⟩) fun _ _ z => z)
theorem ev_ruLenZ {x : Str} {p1 : Pos} {m : M (List D)} (hK : X.K = W.K) (B : OwnM W "__len__" g) (M : FnZ X.prog X.w X.K X.mg X.base CX k g (spEv W 1 fs)) (hr : Room (k + 1) X.A) (px : Passes CX X E) (hg : Gl X x) (hm : X.mg x = none) (hv : bootBuiltins x = some (.builtin "len"))
    (ha : PA X [a] (tL W E m)) (hn : x ≠ "__name__" := by decide) (hdb : (x == ("__debug__" : Str)) = false := by decide) (he : starEach [a] X.env = (false, eval a X.env) :: starEach [] X.env := by rfl) (hpl : (backTo pos (starEach [] X.env)).any (·.1) = false := by rfl) :
    PE X (.Call (.Name x p1) [a] [] pos) (tM W E (ruLen fs m)) :=
  weakE (pe_callB (call_ruLenZ hK B M hr px) hg hm hv ha hn hdb he hpl) fun σ H Q ⟨F, e, g, S, p⟩ => by
    refine ⟨F, e, g, S, (Post.bind p).mono fun ds g1 F1 H1 x1 c1 p1 vs rr => ?_⟩
    match ds, p1, rr with
    | [x], p1, rr =>
      obtain ⟨v, r, rfl, rx, r0⟩ := rr
      cases (show r = [] from r0)
      obtain ⟨h1, p1⟩ := post_ite (g := g1) p1
      refine ⟨v, _, rfl, insRu_of rx h1, sp_in (n := 1) (ds := [x]) c1 (RepL.one rx) ?_⟩
      rw [if_pos (show [x].length = 1 from rfl)]
      refine (Post.bind p1).mono fun d g2 F2 H2 x2 c2 p2 w rw => ?_
      cases d <;> try exact p2.elim
      obtain ⟨h2, p2⟩ := post_ite (g := g2) p2
      exact ⟨_, rw, by omega, p2 F2 H2 .refl c2 _ (rep_int _)⟩
    | [], p1, rr => exact p1.elim
    | _ :: _ :: _, p1, rr => exact p1.elim
end

/-! ### a generator's body: what it has handed out stands beside the state -/
inductive RG where
  | nx (e : Env) (ys : List D) (g : List Cell) | bad
abbrev MG := Env → List D → List Cell → RG
def GPost (W : Wd) (F : Fb) (H : Hp) (r : RG) (D0 : GEnds) : Prop := match r with
  | .nx e ys g => ∀ F' σ' H', Xs F F' H H' → St W F' e g σ' H' → D0.nx (ys.map toV) σ' H'
  | .bad => False
theorem GPost.on {W : Wd} {F F' : Fb} {H H' : Hp} {r : RG} {D0 : GEnds} (p : GPost W F H r D0) (x : Xs F F' H H') : GPost W F' H' r D0 := by
  cases r with
  | nx e ys g => exact fun F2 σ2 H2 y s => p F2 σ2 H2 (x.trans y) s
  | bad => exact p
def tMG (W : Wd) (m : MG) : TGn := fun D0 zs σ H => ∃ F e g ys, St W F e g σ H ∧ zs = ys.map toV ∧ GPost W F H (m e ys g) D0
section
variable {W : Wd} {X : Cx} {st : Stmt} {rest body : List Stmt} {e c : Expr} {pos yp : Pos} {s1 : MS} {m m2 : MG} {me : M D} {tc : M Bool}
def plG (s : MS) : MG := fun e ys g => match s e g with
  | .nx e1 g1 => .nx e1 ys g1
  | _ => .bad
theorem PS.nox1 {t : TS} (h : PS X.nox st t) : PS X st t := ⟨fun pins s σ H D I hw =>
  wpAny_mono (h.run pins s σ H D (I.wish _) hw) (fun _ _ q => q.unwish) fun _ _ z => False.elim z⟩
theorem weakGS {t t' : TGn} (h : L2.GS X st t) (w : ∀ D0 ys σ H, t' D0 ys σ H → t D0 ys σ H) : L2.GS X st t' := ⟨fun A S ip R n ys s0 c fs K J gd lv s σ H D0 g hn k hI ht => h.run A S ip R n ys s0 c fs K J gd lv s σ H D0 g hn k hI (w _ _ _ _ ht)⟩
theorem weakGSs {t t' : TGn} (h : GSs X rest t) (w : ∀ D0 ys σ H, t' D0 ys σ H → t D0 ys σ H) : GSs X rest t' := ⟨fun A S ip R n ys s0 c fs K J gd lv s σ H D0 g hn k hI ht => h.run A S ip R n ys s0 c fs K J gd lv s σ H D0 g hn k hI (w _ _ _ _ ht)⟩
theorem gg_plain (h : PS X.nox st (tMS W (fun _ _ _ => False) s1)) : L2.GS X st (tMG W (plG s1)) := weakGS (gs_ps (PS.nox1 h)) fun D0 zs σ H ⟨F, e, g, ys, S, ez, p⟩ => by
  refine ⟨F, e, g, S, ?_⟩
  unfold plG at p
  subst ez
  cases q : s1 e g with
  | nx e1 g1 =>
    rw [q] at p
    exact fun F' σ' H' x s => p F' σ' H' x s
  | bk _ _ => rw [q] at p; exact p.elim
  | ct _ _ => rw [q] at p; exact p.elim
  | rt _ _ => rw [q] at p; exact p.elim
  | ex _ _ _ => rw [q] at p; exact p.elim
  | bad => rw [q] at p; exact p.elim
def yldG (me : M D) : MG := fun e ys g => match me e g with
  | .ok d g1 => if flatD d = true ∧ ys.length < 16777216 then .nx e (ys ++ [d]) g1 else .bad
  | _ => .bad
theorem gg_yield (h : PE X.nox e (tM W (fun _ _ _ => False) me)) (hco : X.env.scope.isCoroutine = false := by rfl) (hi : interactive X.env = false := by rfl) : L2.GS X (.Expr (.Yield (some e) yp) pos) (tMG W (yldG me)) := weakGS (gs_yield h.nox hco hi) fun D0 zs σ H ⟨F, en, g, ys, S, ez, p⟩ => by
  subst ez
  unfold yldG at p
  cases q : me en g with
  | ok d g1 =>
    rw [q] at p
    simp only at p
    split at p
    · rename_i hc
      refine ⟨by rw [List.length_map, sizeLine_eq]; exact hc.2, F, en, g, S, ?_⟩
      rw [q]
      intro F' H' x c v r
      obtain ⟨e1, _⟩ := flat_of r hc.1
      have := p F' σ H' x.xs (S.step x c)
      rw [List.map_append] at this
      rw [e1]
      exact this
    · exact p.elim
  | ex _ _ _ => rw [q] at p; exact p.elim
  | bad => rw [q] at p; exact p.elim
def skipG : MG := fun e ys g => .nx e ys g
def seqG (a b : MG) : MG := fun e ys g => match a e ys g with
  | .nx e1 ys1 g1 => b e1 ys1 g1
  | .bad => .bad
theorem ggs_nil : GSs X [] (tMG W skipG) := weakGSs gss_nil fun D0 zs σ H ⟨F, e, g, ys, S, ez, p⟩ => by
  subst ez
  exact p F σ H .refl S
theorem ggs_cons (h : L2.GS X st (tMG W m)) (k : GSs X rest (tMG W m2)) : GSs X (st :: rest) (tMG W (seqG m m2)) := weakGSs (gss_cons h k) fun D0 zs σ H ⟨F, e, g, ys, S, ez, p⟩ => by
  refine ⟨F, e, g, ys, S, ez, ?_⟩
  unfold seqG at p
  cases q : m e ys g with
  | nx e1 ys1 g1 =>
    rw [q] at p
    exact fun F' σ' H' x s => ⟨F', e1, g1, ys1, s, rfl, p.on x⟩
  | bad => rw [q] at p; exact p.elim
def whG (t : M Bool) (m : MG) : Nat → MG
  | 0 => fun _ _ _ => .bad
  | n + 1 => fun e ys g => match t e g with
    | .ok b g1 => if b = true then (match m e ys g1 with
      | .nx e2 ys2 g2 => whG t m n e2 ys2 g2
      | .bad => .bad) else .nx e ys g1
    | _ => .bad
theorem gg_while (n : Nat) (hp : PassesOwn (model X.prog X.w) X.A X.env X.xe) (hc : PT X.nox c (tB W (fun _ _ _ => False) tc)) (hb : GSs X body (tMG W m)) : L2.GS X (.While c body [] pos) (tMG W (whG tc m n)) := weakGS (gs_while hp hc.nox hb) fun D0 zs σ H ⟨F, e, g, ys, S, ez, p⟩ => by
  refine ⟨fun k zs σ' H' => ∃ F' e' g' ys', St W F' e' g' σ' H' ∧ zs = ys'.map toV ∧ GPost W F' H' (whG tc m k e' ys' g') D0, ⟨n, F, e, g, ys, S, ez, p⟩, ?_⟩
  rintro k zs σ' H' ⟨F', e', g', ys', S', ez', p'⟩
  cases k with
  | zero => exact p'.elim
  | succ k =>
    refine ⟨F', e', g', S', ?_⟩
    unfold whG at p'
    cases q : tc e' g' with
    | ex _ _ _ => rw [q] at p'; exact p'.elim
    | bad => rw [q] at p'; exact p'.elim
    | ok b g1 =>
      rw [q] at p'
      simp only at p'
      intro F1 H1 x1 c1
      cases b with
      | false =>
        rw [if_neg (by decide)] at p' ⊢
        subst ez'
        exact p' F1 σ' H1 x1.xs (S'.step x1 c1)
      | true =>
        rw [if_pos rfl] at p' ⊢
        refine ⟨fun zs2 σ2 H2 => ∃ F2 e2 g2 ys2, St W F2 e2 g2 σ2 H2 ∧ zs2 = ys2.map toV ∧ GPost W F2 H2 (whG tc m k e2 ys2 g2) D0, fun zs2 σ2 H2 h => ⟨k, Nat.lt_succ_self _, h⟩, F1, e', g1, ys', S'.step x1 c1, ez', ?_⟩
        cases q2 : m e' ys' g1 with
        | nx e2 ys2 g2 =>
          rw [q2] at p'
          exact fun F2 σ2 H2 x2 s2 => ⟨F2, e2, g2, ys2, s2, rfl, p'.on (x1.xs.trans x2)⟩
        | bad => rw [q2] at p'; exact p'.elim
end
/-- a generator def's promise -/
def GOut (W : Wd) (F : Fb) (H : Hp) (r : R (List D)) (Q : List V → Hp → Prop) : Prop := match r with
  | .ok ys g => ys.all flatD = true ∧ ∀ F' H', Xe F F' H H' → Cells W F' H' g → Q (ys.map toV) H'
  | _ => False
def spGen (W : Wd) (n : Nat) (f : List D → List Cell → R (List D)) : SpG := fun vs H Q E => ∃ nu th ds g, Cells W ⟨nu, [], th⟩ H g ∧ RepL W ⟨nu, [], th⟩ H ds vs ∧ ds.length = n ∧ GOut W ⟨nu, [], th⟩ H (f ds g) Q
theorem spGen_len {W : Wd} {n : Nat} {f : List D → List Cell → R (List D)} {vs : List V} {H : Hp} {Q : List V → Hp → Prop} {E : XK} (h : spGen W n f vs H Q E) : vs.length = n := by
  obtain ⟨nu, th, ds, g, _, r, hl, _⟩ := h
  rw [← r.length]; exact hl
@[irreducible] def genF (n N : Nat) (body : MG) : List D → List Cell → R (List D) := fun ds g => if ds.length = n then (match body (ds.map .v ++ List.replicate (N - n) .no) [] g with
  | .nx _ ys g1 => if ys.all flatD = true then .ok ys g1 else .bad
  | .bad => .bad) else .bad
theorem gfn_ev {P : Program} {w : World} {mg : Str → Option Value} {base : Heap} {W : Wd} {k n m : Nat} {x qual : Str} {st : Stmt} {f : Addr} {fd : FuncData} {N ps : List Str} {body : MG} (F : Fun W.K x qual st f fd) (S : GScope N ps (defScope st)) (hn : ps.length = n) (hm : N.length = m)
    (h : ∀ (cdv : Value) (A : Around) (out : List PySem.Env) (s : Shared) (H : Hp) (E : XK) (pn : List (Addr × Obj)), Room k (A.deeper (envOfC qual (defScope st) s.heap.objs.size f cdv)) →
      GSs (gcxOf P w W.K mg base N qual (defScope st) f cdv A out s H E pn) (defBody st) (tMG W body)) : GFn P w W.K mg base (k + 1) f fd ps (spGen W n (genF n m body)) := by
  subst hn hm
  obtain ⟨oc, od, kV, doc, pm, an, cdv, ct, osl, rfl, lk, hcd⟩ := F.ex
  refine gfn_of lk hcd S (fun vs H Q E q => spGen_len q) fun A out s H vs Q E pn hr hsp => ⟨_, h cdv A out s H E pn hr, ?_⟩
  obtain ⟨nu, th, ds, g, c, r, hl, p⟩ := hsp
  have S0 := st_start (N := N) c r
  rw [hl] at S0
  unfold genF at p
  rw [if_pos hl] at p
  refine ⟨_, _, g, [], S0, rfl, ?_⟩
  cases q : body (ds.map .v ++ List.replicate (N.length - ps.length) .no) [] g with
  | bad => rw [q] at p; exact p.elim
  | nx e1 ys g1 =>
    rw [q] at p
    simp only at p
    split at p
    · exact fun F' σ' H' x s => p.2 F'.base H' ⟨fun a o h n => x.keep a o h n (by simp), x.st, x.th, x.nu, rfl⟩ s.cells.base
    · exact p.elim
section
variable {W : Wd} {E : XK} {X : Cx} {k n : Nat} {f : Addr} {fd : FuncData} {ps : List Str} {fs : List D → List Cell → R (List D)} {x nm : Str} {p pos p2 pos2 : Pos} {e : Expr} {es : List Expr} {mr : M (List D)}
def genM (n : Nat) (f : List D → List Cell → R (List D)) (m : M (List D)) : M (List D) := fun e g => (m e g).bind fun ds g1 => if ds.length = n then (match f ds g1 with
  | .ok ys g2 => if ys.all flatD = true then .ok ys g2 else .bad
  | _ => .bad) else .bad
end
/-! ### parts that make no cells -/
def sameS (s : MS) : MS := fun e g => match s e g with
  | .nx e1 g1 => if g1.length = g.length then .nx e1 g1 else .bad
  | _ => .bad
def sameM {α : Type} (m : M α) : M α := fun e g => match m e g with
  | .ok a g1 => if g1.length = g.length then .ok a g1 else .bad
  | _ => .bad
def sameB (m : M Bool) : M Bool := sameM m
section
variable {W : Wd} {E : XK} {X : Cx} {st : Stmt} {e : Expr} {s1 : MS} {me : M D} {mt : M Bool}
theorem ev_sameS (h : PS X st (tMS W E s1)) : PS X st (tMS W E (sameS s1)) := weakS h fun D0 σ H ⟨F, e, g, S, p⟩ => by
  refine ⟨F, e, g, S, ?_⟩
  unfold sameS at p
  cases q : s1 e g <;> rw [q] at p <;> try exact p.elim
  simp only at p
  split at p
  · exact p
  · exact p.elim
theorem same_post {α : Type} {F : Fb} {H : Hp} {r : R α} {n : Nat} {k : α → List Cell → Fb → Hp → Prop} (p : Post W E F H (match r with
  | .ok a g1 => if g1.length = n then .ok a g1 else .bad
  | _ => .bad) k) : Post W E F H r k := by
  cases r with
  | ok a g1 =>
    simp only at p
    split at p
    · exact p
    · exact p.elim
  | ex _ _ _ => exact p.elim
  | bad => exact p.elim
theorem ev_sameM (h : PE X e (tM W E me)) : PE X e (tM W E (sameM me)) := weakE h fun σ H Q ⟨F, e, g, S, p⟩ => ⟨F, e, g, S, same_post p⟩
theorem ev_sameB (h : PT X e (tB W E mt)) : PT X e (tB W E (sameB mt)) := ⟨fun pins s σ H Q I ⟨F, e, g, S, p⟩ => h.run pins s σ H Q I ⟨F, e, g, S, same_post p⟩⟩
end

/-! ### data that name no cell -/
mutual
def noG : D → Bool
  | .g _ => false
  | .tup xs => noGs xs
  | .lst xs => noGs xs
  | .ob _ x => noG x
  | .exc _ x => noG x
  | .da xs => noGs xs
  | _ => true
def noGs : List D → Bool
  | [] => true
  | d :: ds => noG d && noGs ds
end
/-- a generator's items, for a loop -/
def genI (n : Nat) (fs : List D → List Cell → R (List D)) (m : M (List D)) : M (List D) := fun e g => (m e g).bind fun ds g1 => if ds.length = n ∧ noGs ds = true then (match fs ds [] with
  | .ok T [] => .ok T g1
  | _ => .bad) else .bad
def GenOut (f : List D → List Cell → R (List D)) (ds T : List D) : Prop := noGs ds = true ∧ f ds [] = .ok T []
/-- *a among arguments -/
def starM (a : M D) (r : M (List D)) : M (List D) := fun e g => (a e g).bind fun x g1 => match x with
  | .tup xs => (r e g1).bind fun ys g2 => .ok (xs ++ ys) g2
  | .lst xs => (r e g1).bind fun ys g2 => .ok (xs ++ ys) g2
  | _ => .bad
end Ev

/-! Ev27: a chain of the rules' own comparisons. -/
namespace Ev
open PySem PySem.Spec PyProof.Rows L2
def twoCh (q q' : D → D → List Cell → R D) (a b c : M D) : M D := fun e g => (a e g).bind fun x g1 => (b e g1).bind fun y g2 => (q x y g2).bind fun d g3 => match d with
  | .bl k => if k = true then (c e g3).bind fun z g4 => q' y z g4 else .ok (.bl false) g3
  | _ => .bad
end Ev

/-! Ev28: objects that change: cells with one field. -/
namespace Ev
open PySem PySem.Spec PyProof.Rows L2
/-- the field of the object in a cell -/
def cobD (c : Nat) : D → List Cell → Option D := fun x g => match x with
  | .g n => match g[n]? with
    | some (.ob k d) => if k = c then some d else none
    | _ => none
  | _ => none
/-- what stands of the class -/
structure ObOk (W : Wd) (c : Nat) (fld : Str) : Prop where
  cls : Cls W.K (W.cl c)
  no : NoAttr W.K (W.cl c) fld
  fd : W.fd c = fld
theorem cob_of {W : Wd} {F : Fb} {H : Hp} {g : List Cell} {x d : D} {v : V} {c : Nat} (cc : Cells W F H g) (rx : Rep W F H x v) (h : cobD c x g = some d) :
    ∃ n a dx u, x = .g n ∧ g[n]? = some (.ob c d) ∧ F.th[n]? = some a ∧ v = .ref a ∧ H a = some (.ins (W.cl c) dx [(W.fd c, u)]) ∧ Rep W F H d u := by
  cases x <;> try (cases h; done)
  rename_i n
  unfold cobD at h
  simp only at h
  cases q : g[n]? with
  | none => rw [q] at h; cases h
  | some ce =>
    rw [q] at h
    cases ce with
    | lst _ => cases h
    | dct _ => cases h
    | tbl _ => cases h
    | ob k d' =>
      simp only at h
      split at h
      · rename_i hk
        subst hk
        cases h
        obtain ⟨a, h1, rfl⟩ := rx
        obtain ⟨dx, u, h2, h3⟩ := cc.cel n a _ h1 q
        exact ⟨n, a, dx, u, rfl, q, h1, rfl, h2, h3⟩
      · cases h
section
variable {W : Wd} {E : XK} {X : Cx} {CX : CXT} {c k n : Nat} {f : Addr} {fs : List D → List Cell → R D} {fld m x : Str} {a e o : Expr} {es : List Expr} {p1 p2 p3 pos apos : Pos} {me ma mo : M D} {mr : M (List D)}
theorem ev_cob (hK : X.K = W.K) (K : ObOk W c fld) (he : PE X e (tM W E me)) (hb : attributeBase e fld X.env (eval e X.env) = eval e X.env := by rfl) : PE X (.Attribute e fld pos) (tM W E (unM (cobD c) me)) :=
  weakE (pe_fld he hb) fun σ H Q ⟨F, en, g, S, p⟩ => by
    refine ⟨F, en, g, S, (Post.bind p).mono fun x g1 F1 H1 x1 c1 p1 v r1 => ?_⟩
    obtain ⟨d, hd, kk⟩ := post_of p1
    obtain ⟨n, a, dx, u, _, _, _, h1, h2, h3⟩ := cob_of c1 r1 hd
    refine ⟨a, W.cl c, dx, [(W.fd c, u)], u, h1, h2, by rw [hK]; exact K.cls, by rw [hK]; exact K.no, ?_, kk F1 H1 .refl c1 _ h3⟩
    rw [← K.fd]
    simp [List.lookup]
/-- x.fld = a, of the object in a cell -/
def setOb (c i : Nat) (m : M D) : MS := fun e g => match e[i]? with
  | some (.v (.g n)) => (m e g).toS fun d g1 => if (cobD c (.g n) g1).isSome = true then .nx e (g1.set n (.ob c d)) else .bad
  | _ => .bad
/-- o.m(..) -/
def mthM (c n : Nat) (f : List D → List Cell → R D) (mo : M D) (ma : M (List D)) : M D := fun e g => (mo e g).bind fun x g1 => if (cobD c x g1).isSome = true then (ma e g1).bind fun ds g2 => if (cobD c x g2).isSome = true ∧ ds.length + 1 = n then f (x :: ds) g2 else .bad else .bad
theorem mth_q {F : Fb} {H : Hp} {g : List Cell} {x : D} {v : V} (cc : Cells W F H g) (rx : Rep W F H x v) (h : (cobD c x g).isSome = true) : ∃ a dx u, v = .ref a ∧ H a = some (.ins (W.cl c) dx [(W.fd c, u)]) := by
  obtain ⟨d, hd⟩ := Option.isSome_iff_exists.mp h
  obtain ⟨n, a, dx, u, _, _, _, h1, h2, _⟩ := cob_of cc rx hd
  exact ⟨a, dx, u, h1, h2⟩
theorem ev_mth {pl : Sem Bool} (hK : X.K = W.K) (K : ObOk W c fld) (hM : Meth W.K (W.cl c) m f) (hmf : ((fld : Str) == m) = false) (G : FnP X.prog X.w X.K X.mg X.base CX k f (spEv W n fs)) (hG : X.A.guards = some []) (hr : Room k X.A) (px : Passes CX X E) (ho : PE X o (tM W E mo)) (ha : PA X (e :: es) (tL W E mr))
    (hst : starEach (e :: es) X.env = (false, eval e X.env) :: starEach es X.env := by rfl) (hpl : (backTo pos (starEach es X.env)).any (·.1) = false := by rfl)
    (ht : eval (.Call (.Attribute o m apos) (e :: es) [] pos) X.env = (do
      let ov ← eval o X.env
      standAt apos.atName
      let (f, first) ← holding [ov] (getMethod ov m pl)
      callWith pos f first (backTo pos (starEach (e :: es) X.env)) (backToKw pos (keywordEach [] X.env))) := by rfl) :
    PE X (.Call (.Attribute o m apos) (e :: es) [] pos) (tM W E (mthM c n fs mo mr)) := by
  refine ⟨fun pins s σ H Q I ⟨F0, en, g0, S, q⟩ => ?_⟩
  have q1 := (Post.bind q).mono fun x g1 F1 H1 x1 c1 p1 v rx => (by
    obtain ⟨h1, p1⟩ := post_ite (g := g1) p1
    exact ⟨x, F1, g1, h1, rx, x1, c1, p1⟩ : ∃ x F1 g1, (cobD c x g1).isSome = true ∧ Rep W F1 H1 x v ∧ Xe F0 F1 H H1 ∧ Cells W F1 H1 g1 ∧ Post W E F1 H1 ((mr en g1).bind fun ds g2 => if (cobD c x g2).isSome = true ∧ ds.length + 1 = n then fs (x :: ds) g2 else .bad) fun d _ F' H' => ∀ w, Rep W F' H' d w → Q w H')
  refine PySem.W.methodCall_KW (pl := pl) (thn (ho.run pins s σ H _ I ⟨F0, en, g0, S, q1⟩) fun u s1 ⟨v, H1, I1, rv, x, F1, g1, h1, rx, x1, c1, p1⟩ => ?_) ht
  obtain ⟨ad, dx, w, e1, hA⟩ := mth_q c1 rx h1
  subst e1
  obtain rfl : u = Value.ref ad := rv
  have hM' : Meth X.K (W.cl c) m f := by rw [hK]; exact hM
  have hl : ([(W.fd c, w)] : List (Str × V)).lookup m = none := by
    rw [K.fd]
    have : (m == fld) = false := by rw [beq_eq_false_iff_ne] at hmf ⊢; exact fun z => hmf z.symm
    simp only [List.lookup, this]
  refine getmeth_ok I1 hA (by rw [hK]; exact K.cls) hM' hl ?_
  have q2 : tL W E mr σ H1 fun vs H2 => spEv W n fs (V.ref ad :: vs) H2 Q E := ⟨F1, en, g1, S.step x1 c1, (Post.bind p1).mono fun ds g2 F2 H2 x2 c2 p2 vs rr => by
    obtain ⟨h2, p2⟩ := post_ite (g := g2) p2
    exact sp_in (ds := x :: ds) c2 ⟨_, _, rfl, rx.up x2.up, rr⟩ (by rw [if_pos (show (x :: ds).length = n from h2.2)]; exact p2)⟩
  refine PySem.W.callWith_K (first := [.ref ad]) (h₀ := X.base) I.ok.mod.kin hM'.kp (thn (ha.run pos pins s1 σ H1 _ I1 q2) fun us s2 ⟨vs, H2, I2, r, h2⟩ => ⟨I2.kIn, ?_⟩) hst hpl
  exact run_fnP (us := .ref ad :: us) (vs := .ref ad :: vs) G hG hr px I2 (.cons rfl r) h2
theorem ev_mth0 {pl : Sem Bool} (hK : X.K = W.K) (K : ObOk W c fld) (hM : Meth W.K (W.cl c) m f) (hmf : ((fld : Str) == m) = false) (G : FnP X.prog X.w X.K X.mg X.base CX k f (spEv W n fs)) (hG : X.A.guards = some []) (hr : Room k X.A) (px : Passes CX X E) (ho : PE X o (tM W E mo))
    (ht : eval (.Call (.Attribute o m apos) [] [] pos) X.env = (do
      let ov ← eval o X.env
      standAt apos.atName
      let (f, first) ← holding [ov] (getMethod ov m pl)
      callWith pos f first (backTo pos (starEach [] X.env)) (backToKw pos (keywordEach [] X.env))) := by rfl) :
    PE X (.Call (.Attribute o m apos) [] [] pos) (tM W E (mthM c n fs mo nilM)) := by
  refine ⟨fun pins s σ H Q I ⟨F0, en, g0, S, q⟩ => ?_⟩
  have q1 := (Post.bind q).mono fun x g1 F1 H1 x1 c1 p1 v rx => (by
    obtain ⟨h1, p1⟩ := post_ite (g := g1) p1
    exact ⟨x, F1, g1, h1, rx, x1, c1, p1⟩ : ∃ x F1 g1, (cobD c x g1).isSome = true ∧ Rep W F1 H1 x v ∧ Xe F0 F1 H H1 ∧ Cells W F1 H1 g1 ∧ Post W E F1 H1 ((nilM en g1).bind fun ds g2 => if (cobD c x g2).isSome = true ∧ ds.length + 1 = n then fs (x :: ds) g2 else .bad) fun d _ F' H' => ∀ w, Rep W F' H' d w → Q w H')
  refine PySem.W.methodCall_KW (pl := pl) (thn (ho.run pins s σ H _ I ⟨F0, en, g0, S, q1⟩) fun u s1 ⟨v, H1, I1, rv, x, F1, g1, h1, rx, x1, c1, p1⟩ => ?_) ht
  obtain ⟨ad, dx, w, e1, hA⟩ := mth_q c1 rx h1
  subst e1
  obtain rfl : u = Value.ref ad := rv
  have hM' : Meth X.K (W.cl c) m f := by rw [hK]; exact hM
  have hl : ([(W.fd c, w)] : List (Str × V)).lookup m = none := by
    rw [K.fd]
    have : (m == fld) = false := by rw [beq_eq_false_iff_ne] at hmf ⊢; exact fun z => hmf z.symm
    simp only [List.lookup, this]
  refine getmeth_ok I1 hA (by rw [hK]; exact K.cls) hM' hl ?_
  have p1 : Post W E F1 H1 (if (cobD c x g1).isSome = true ∧ ([] : List D).length + 1 = n then fs [x] g1 else .bad) fun d _ F' H' => ∀ w, Rep W F' H' d w → Q w H' := p1
  obtain ⟨h2, p2⟩ := post_ite (g := g1) p1
  refine PySem.W.callWith_K0 (first := [.ref ad]) I1.kIn hM'.kp (run_fnP (us := [.ref ad]) (vs := [.ref ad]) G hG hr px I1 (.cons rfl .nil) (sp_in (ds := [x]) c1 (RepL.one rx) (by rw [if_pos (show [x].length = n from h2.2)]; exact p2)))
/-- o.p, a property -/
def prpM (c : Nat) (f : List D → List Cell → R D) (mo : M D) : M D := fun e g => (mo e g).bind fun x g1 => if (cobD c x g1).isSome = true then f [x] g1 else .bad
theorem ev_prpS {p : Addr} {fd : FuncData} {ps : List Str} (hK : X.K = W.K) (K : ObOk W c fld) (hp : PropOf W.K (W.cl c) m p f) (G : FnOk X.prog X.w X.K X.mg X.base CX0 k f fd ps (spEv W 1 fs)) (hr : Room (k + 1) X.A) (hb : Binds W.K fd ps []) (ho : PE X o (tM W E mo))
    (hba : attributeBase o m X.env (eval o X.env) = eval o X.env := by rfl) : PE X (.Attribute o m pos) (tM W E (prpM c fs mo)) := by
  exact weakE (pe_prop (CX := CX0) (E := E) (dvs := []) (ds := []) ho (by rw [hK]; exact K.cls) (by rw [hK]; exact hp) G hr (by rw [hK]; exact hb) .nil pass00 hba) fun σ H Q ⟨F, e, g, S, q⟩ => by
    refine ⟨F, e, g, S, (Post.bind q).mono fun x g1 F1 H1 x1 c1 p1 v rx => ?_⟩
    obtain ⟨h1, p1⟩ := post_ite (g := g1) p1
    obtain ⟨ad, dx, w, e1, hA⟩ := mth_q c1 rx h1
    subst e1
    exact ⟨ad, dx, _, rfl, hA, sp_in (n := 1) (ds := [x]) c1 (RepL.one rx) (by rw [if_pos (show [x].length = 1 from rfl)]; exact p1)⟩
end
/-! ### a new object in a cell -/
section
variable {W : Wd} {E : XK} {X : Cx} {CX : CXT} {c k n : Nat} {f : Addr} {fs : List D → List Cell → R D} {x : Str} {e : Expr} {es : List Expr} {p1 pos : Pos} {ma mk : M (List D)} {F : Fb} {H : Hp} {gg : List Cell} {a dx : Addr}
theorem mk_backC {F' : Fb} {H' : Hp} {g' : List Cell} {d : D} {v : V} (cc : Cells W F H gg) (ha : H a = none) (hd : H dx = none) (x : Xe (F.inn a) F' (mk0 W c H a dx) H') (c' : Cells W F' H' g') (r : Rep W F' H' d v) :
    Xe F ⟨F.nu, F.om, F'.th ++ [a]⟩ H (upd H' a (.ins (W.cl c) dx [(W.fd c, v)])) ∧ Cells W ⟨F.nu, F.om, F'.th ++ [a]⟩ (upd H' a (.ins (W.cl c) dx [(W.fd c, v)])) (g' ++ [.ob c d]) ∧ (F'.th ++ [a])[g'.length]? = some a := by
  obtain ⟨h1, h2, _, h4⟩ := mk_back (o' := .ins (W.cl c) dx [(W.fd c, v)]) cc ha hd x c'
  have hnu : F'.nu = a :: (F.nu ++ F.om) := x.nu
  have na : a ∉ F'.th := fun z => h4 (.inr (.inr z))
  have up3 : Up F' ⟨F.nu, F.om, F'.th ++ [a]⟩ H' (upd H' a (.ins (W.cl c) dx [(W.fd c, v)])) := by
    refine ⟨fun b u e nb => ?_, [a], rfl⟩
    have hb : b ≠ a := fun z => nb (.inl (by rw [hnu, z]; exact List.mem_cons_self))
    refine ⟨by rw [upd_ne hb]; exact e, fun z => ?_⟩
    rcases z with z | z | z
    · exact nb (.inl (by rw [hnu]; exact List.mem_cons_of_mem _ (List.mem_append_left _ z)))
    · exact nb (.inl (by rw [hnu]; exact List.mem_cons_of_mem _ (List.mem_append_right _ z)))
    · rcases List.mem_append.mp z with z | z
      · exact nb (.inr (.inr z))
      · exact hb (List.mem_singleton.mp z)
  have hl : F'.th.length = g'.length := c'.len
  refine ⟨⟨h1.keep, h1.st, ?_, rfl, rfl⟩, ⟨?_, ?_, fun m b y k1 k2 => ?_, fun b z => ?_, fun b hb => ?_, cc.dj2⟩, ?_⟩
  · obtain ⟨more, e1, e2⟩ := h1.th
    refine ⟨more ++ [a], ?_, fun b hb => ?_⟩
    · show F'.th ++ [a] = F.th ++ (more ++ [a])
      rw [← List.append_assoc]
      exact congrArg (· ++ [a]) e1
    · rcases List.mem_append.mp hb with z | z
      · exact e2 b z
      · rw [List.mem_singleton.mp z]; exact ha
  · rw [List.nodup_append]
    exact ⟨c'.nd, by simp, fun b hb b' hb' z => na (by rw [← List.mem_singleton.mp hb', ← z]; exact hb)⟩
  · rw [List.length_append, List.length_append, hl]; rfl
  · have k1 : (F'.th ++ [a])[m]? = some b := k1
    by_cases hm : m < F'.th.length
    · rw [List.getElem?_append_left hm] at k1
      rw [List.getElem?_append_left (by omega)] at k2
      exact (c'.cel m b y k1 k2).up up3 (upd_ne fun z => na (by rw [← z]; exact List.mem_of_getElem? k1))
    · rw [List.getElem?_append_right (by omega)] at k1
      rw [List.getElem?_append_right (by omega)] at k2
      have e1 : b = a := List.mem_singleton.mp (List.mem_of_getElem? k1)
      have e2 : y = .ob c d := List.mem_singleton.mp (List.mem_of_getElem? k2)
      subst e1 e2
      exact ⟨dx, v, upd_same, r.up up3⟩
  · by_cases hb : b = a
    · exact ⟨_, by rw [hb]; exact upd_same⟩
    · refine h2.tr b ?_
      rcases z with z | z | z
      · exact .inl z
      · exact .inr (.inl z)
      · rcases List.mem_append.mp z with z | z
        · exact .inr (.inr z)
        · exact absurd (List.mem_singleton.mp z) hb
  · rcases List.mem_append.mp hb with z | z
    · exact h2.dj b z
    · rw [List.mem_singleton.mp z]
      exact ⟨fun w => h4 (.inl w), fun w => h4 (.inr (.inl w))⟩
  · rw [List.getElem?_append_right (by omega), hl, Nat.sub_self]
    rfl
def mkCM (c : Nat) (fs : List D → List Cell → R D) (ma : M (List D)) : M D := fun e g => (ma e g).bind fun ds g1 => (fs ds g1).bind fun d g2 => .ok (.g g2.length) (g2 ++ [.ob c d])
theorem sp_makeC {ds : List D} {vs : List V} {Q : VK} (cc : Cells W F H gg) (rr : RepL W F H ds vs) (q : Post W E F H ((fs ds gg).bind fun d g2 => R.ok (.g g2.length) (g2 ++ [.ob c d])) fun d _ F' H' => ∀ v, Rep W F' H' d v → Q v H')
    (ha : H a = none) (hd : H dx = none) : spIn W c fs (V.ref a :: vs) (mk0 W c H a dx) (fun v H2 => v = .non ∧ Q (.ref a) H2) E := by
  refine ⟨a, dx, vs, a :: (F.nu ++ F.om), F.th, ds, gg, rfl, upd_same, List.mem_cons_self, mk0_cells cc ha hd, rr.up (mk0_up ha hd), ?_⟩
  revert q
  generalize fs ds gg = r
  intro q
  cases r with
  | ok d g' =>
    intro F' H' x c' v rv
    obtain ⟨h1, h2, h3⟩ := mk_backC cc ha hd x c' rv
    exact ⟨rfl, q _ _ h1 h2 _ ⟨a, h3, rfl⟩⟩
  | ex cc' d g' =>
    intro F' H' dx' v x c' rv hx
    have hc : H' a = some (.ins (W.cl c) dx []) := x.keep a _ upd_same fun z => by
      obtain ⟨u, hu⟩ := cc.tr a (.inr (.inr z))
      exact ne_of_none hu ha rfl
    obtain ⟨h1, h2, h3, h4⟩ := mk_back (o' := .ins (W.cl c) dx []) cc ha hd x c'
    have e : upd H' a (.ins (W.cl c) dx []) = H' := by
      funext b
      by_cases hb : b = a
      · rw [hb, upd_same, hc]
      · rw [upd_ne hb]
    rw [e] at h1 h2 h3
    exact q _ H' dx' v h1 h2 (rv.up h3) (hx.up h3)
  | bad => exact q.elim
theorem ev_makeC (M : Mk X.K (W.cl c) f) (G : FnP X.prog X.w X.K X.mg X.base CX k f (spIn W c fs)) (hG : X.A.guards = some []) (hr : Room (k + 1) X.A) (px : Passes CX X E) (hg : Gl X x) (hm : X.mg x = some (.ref (W.cl c))) (ha : PA X (e :: es) (tL W E ma))
    (hdb : (x == ("__debug__" : Str)) = false := by decide) (he : starEach (e :: es) X.env = (false, eval e X.env) :: starEach es X.env := by rfl) (hpl : (backTo pos (starEach es X.env)).any (·.1) = false := by rfl) : PE X (.Call (.Name x p1) (e :: es) [] pos) (tM W E (mkCM c fs ma)) := by
  refine ⟨fun pins s σ H Q I ⟨F0, en, g, S, q⟩ => wpAny_Call_Name_kw (ld_glob I hg hm ?_ hdb)⟩
  refine PySem.W.callWith_K (h₀ := X.base) I.ok.mod.kin M.kp (thn (ha.run pos pins s σ H _ I ⟨F0, en, g, S, (Post.bind q).mono fun ds g1 F1 H1 x1 c1 k1 vs r => (fun a dx h1 h2 _ => sp_makeC c1 r k1 h1 h2 : ∀ a dx, H1 a = Option.none → H1 dx = Option.none → dx ≠ a → spIn W c fs (V.ref a :: vs) (mk0 W c H1 a dx) (fun v H2 => v = .non ∧ Q (.ref a) H2) E)⟩) fun us s1 ⟨vs, H1, I1, r, q⟩ => ⟨I1.kIn, ?_⟩) he hpl
  exact run_mkP M G hG hr px I1 r q
/-! ### C(e, k = v) -/
theorem run_mkK {fd : FuncData} {ps ks : List Str} {sp : Sp} {g : List Value → List Value → List Value} {gV : List V → List V → List V} {C : Addr} {pins : List (Addr × Obj)} {σ : L2.St} {s : Shared} {Q : VK} {us ws : List Value} {vs zs : List V} (M : Mk X.K C f) (G : FnG X.prog X.w X.K X.mg X.base CX k f fd ps sp) (hG : X.A.guards = some []) (hr : Room (k + 1) X.A) (hb : KBn X.K fd ps (n + 1) ks g gV) (px : Passes CX X E)
    (I : Inv X pins σ H s) (r : Vals vs us) (rz : Vals zs ws) (l1 : vs.length = n) (l2 : zs.length = ks.length)
    (h : ∀ x dx, H x = Option.none → H dx = Option.none → dx ≠ x → sp (gV (V.ref x :: vs) zs) (upd (upd H dx (.own x)) x (.ins C dx [])) (fun v H2 => v = .non ∧ Q (.ref x) H2) E) :
    wpAny (model X.prog X.w) X.A (call (.ref C) us (ks.zip ws)) (EP X pins σ Q) X.xe s := by
  have hq := h (s.heap.objs.size + 1) s.heap.objs.size (I.hok.fresh (Nat.le_succ _)) (I.hok.fresh (Nat.le_refl _)) (Nat.ne_of_lt (Nat.lt_succ_self _))
  have I2 := Inv.made (C := C) I
  have r1 : Vals (V.ref (s.heap.objs.size + 1) :: vs) (Value.ref (s.heap.objs.size + 1) :: us) := .cons rfl r
  have n1 : (Value.ref (s.heap.objs.size + 1) :: us).length = n + 1 := by rw [List.length_cons, ← r.length, l1]
  refine wpAny_call (make_map (f := f) I.kIn M.makes M.init (beq_iff_eq.mp M.fn) (codeAny_mono (G.go _ X.stack _ _ ⟨Value.ref (s.heap.objs.size + 1) :: us, ks.zip ws⟩ (g (Value.ref (s.heap.objs.size + 1) :: us) ws) _ _ E hG (hr.make C us (ks.zip ws))
    (I2.env0.make C us (ks.zip ws)) (hb.to _ (Value.ref (s.heap.objs.size + 1) :: us) ws I2.kIn n1 (rz.length.symm.trans l2)) (hb.rel r1 rz) hq) fun r s' hq' => ?_))
  cases r with
  | error e => exact px pins σ _ _ e s' I2 hq'
  | ok fl =>
    cases fl with
    | ret u =>
      obtain ⟨v, H', I3, rv, ev, q3⟩ := I2.after hq'
      subst ev
      exact ⟨rv, ⟨V.ref (s.heap.objs.size + 1), H', I3, rfl, q3⟩⟩
    | next => exact False.elim hq'
    | brk => exact False.elim hq'
    | cont => exact False.elim hq'
end
/-- an __init__ of plain parameters, by how many values there are -/
def inP (n : Nat) (fs : List D → List Cell → R D) : List D → List Cell → R D := fun ds g => if ds.length + 1 = n then fs ds g else .bad
/-- .. called with less, the rest by default -/
def inD0 (n : Nat) (dfl : List D) (fs : List D → List Cell → R D) : List D → List Cell → R D := fun ds g => if ds.length + dfl.length + 1 = n then inP n fs (ds ++ dfl) g else .bad
theorem spIn_len {W : Wd} {c n : Nat} {fs : List D → List Cell → R D} {vs : List V} {H : Hp} {Q : VK} {E : XK} (h : spIn W c (inP n fs) vs H Q E) : vs.length = n := by
  obtain ⟨x, dx, rest, nu, th, ds, g, rfl, _, _, _, r, p⟩ := h
  unfold inP at p
  obtain ⟨hl, _⟩ := post_ite (g := g) p
  rw [List.length_cons, ← r.length]
  exact hl
theorem in_dfl {P : Program} {w : World} {mg : Str → Option Value} {base : Heap} {W : Wd} {CX : CXT} {k c n : Nat} {K : PySem.W.Frag} {f : Addr} {fd : FuncData} {ps : List Str} {fs : List D → List Cell → R D} {dfl : List D} {dvs : List V} (G : FnG P w K mg base CX k f fd ps (spIn W c (inP n fs))) (bd : ∃ ds, Vals dvs ds ∧ Binds K fd ps ds)
    (hr : ∀ F H, RepL W F H dfl dvs) : FnP P w K mg base CX k f (spIn W c (inD0 n dfl fs)) := by
  obtain ⟨ds, hd, hb⟩ := bd
  refine fun A out s H us vs Q E hg hro e0 rv ⟨x, dx, rest, nu, th, xs, g, ev, hx, hxn, cc, rr, p⟩ => G.pos hb hd A out s H us vs Q E hg hro e0 rv ?_
  subst ev
  unfold inD0 at p
  obtain ⟨hl, p⟩ := post_ite (g := g) p
  exact ⟨x, dx, rest ++ dvs, nu, th, xs ++ dfl, g, rfl, hx, hxn, cc, rr.append (hr _ _), p⟩
section
variable {W : Wd} {E : XK} {X : Cx} {CX : CXT} {c k n : Nat} {f : Addr} {fd : FuncData} {ps ks : List Str} {fs : List D → List Cell → R D} {x : Str} {e : Expr} {es : List Expr} {p1 pos kpos : Pos} {ma mk : M (List D)} {m : M D} {kws : List Keyword} {nm : Option Str} {g : List Value → List Value → List Value}
/-- C(e, .., k = v): the keywords' values stand behind the others -/
def mkKM (c n k : Nat) (fs : List D → List Cell → R D) (ma mk : M (List D)) : M D := fun e g => (ma e g).bind fun ds g1 => (mk e g1).bind fun zs g2 => if ds.length = n ∧ zs.length = k then (fs (ds ++ zs) g2).bind fun d g3 => .ok (.g g3.length) (g3 ++ [.ob c d]) else .bad
theorem ek_one (h : PE X e (tM W E m)) : PK X [⟨nm, e, kpos⟩] (tL W E (consM m nilM)) := ⟨fun pos pins s σ H Q I ⟨F, en, g, S, p⟩ => (pk_cons h pk_nil).run pos pins s σ H Q I (by
  refine ⟨F, en, g, S, (Post.bind p).mono fun d g1 F1 H1 x1 c1 p1 v rv => ?_⟩
  exact p1 F1 H1 .refl c1 [v] (RepL.one rv))⟩
theorem ev_makeK (M : Mk X.K (W.cl c) f) (G : FnG X.prog X.w X.K X.mg X.base CX k f fd ps (spIn W c fs)) (hG : X.A.guards = some []) (hr : Room (k + 1) X.A) (px : Passes CX X E) (hb0 : ∃ g, KBn X.K fd ps (n + 1) ks g (fun vs zs => vs ++ ([] ++ zs))) (hg : Gl X x) (hm : X.mg x = some (.ref (W.cl c))) (ha : PA X (e :: es) (tL W E ma)) (hkw : PK X kws (tL W E mk))
    (hall : (backToKw pos (keywordEach kws X.env)).all (·.1.isSome) = true := by rfl) (hks : (backToKw pos (keywordEach kws X.env)).filterMap (·.1) = ks := by rfl) (hdb : (x == ("__debug__" : Str)) = false := by decide)
    (he : starEach (e :: es) X.env = (false, eval e X.env) :: starEach es X.env := by rfl) (hpl : ((backTo pos (starEach (e :: es) X.env)).any (·.1) || (backToKw pos (keywordEach kws X.env)).any (·.1.isNone)) = false := by rfl) :
    PE X (.Call (.Name x p1) (e :: es) kws pos) (tM W E (mkKM c n ks.length fs ma mk)) := by
  obtain ⟨gb, hb⟩ := hb0
  refine ⟨fun pins s σ H Q I ⟨F0, en, g, S, q⟩ => wpAny_Call_Name_kw (ld_glob I hg hm ?_ hdb)⟩
  have q1 : tL W E ma σ H fun vs H1 => tL W E mk σ H1 fun zs H2 => vs.length = n ∧ zs.length = ks.length ∧ ∀ a dx, H2 a = Option.none → H2 dx = Option.none → dx ≠ a → spIn W c fs (V.ref a :: (vs ++ zs)) (mk0 W c H2 a dx) (fun v H2 => v = .non ∧ Q (.ref a) H2) E :=
    ⟨F0, en, g, S, (Post.bind q).mono fun ds g1 F1 H1 x1 c1 k1 vs r => ⟨F1, en, g1, S.step x1 c1, (Post.bind k1).mono fun zs g2 F2 H2 x2 c2 k2 us r2 => by
      obtain ⟨h1, k2⟩ := post_ite (g := g2) k2
      exact ⟨by rw [← r.length]; exact h1.1, by rw [← r2.length]; exact h1.2, fun a dx n1 n2 _ => sp_makeC c2 ((r.up x2.up).append r2) k2 n1 n2⟩⟩⟩
  refine PySem.W.callWith_KW (h₀ := X.base) I.ok.mod.kin M.kp hall (thn (ha.run pos pins s σ H _ I q1) fun us s1 ⟨vs, H1, I1, r, q⟩ => ?_) hpl he
  refine thn (hkw.run pos pins s1 σ H1 _ I1 q) fun ws s2 ⟨zs, H2, I2, rz, l1, l2, q2⟩ => ⟨I2.kIn, ?_⟩
  rw [hks]
  exact run_mkK M G hG hr hb px I2 r rz l1 l2 q2
end
/-- a method's def with keyword-only defaults -/
structure DmK (K : PySem.W.Frag) (x qual : Str) (st : Stmt) (kws : List (Str × V)) where
  f : Addr
  fd : FuncData
  fn : FunD K x qual (defArgs st) (defBody st) (defScope st) [] kws f fd
end Ev

/-! Ev29: dicts of ints: a cell while they are filled, data behind the call that made them. -/
namespace Ev
open PySem PySem.Spec PyProof.Rows L2
def valI (kvs : List (Int × Int)) (k : Int) : Option Int := (kvs.find? fun p => decide (p.1 = k)).map (·.2)
def putI (kvs : List (Int × Int)) (k v : Int) : List (Int × Int) := if (kvs.any fun p => decide (p.1 = k)) = true then kvs.map (fun p => if p.1 = k then (p.1, v) else p) else kvs ++ [(k, v)]
def dctOf (x : D) (g : List Cell) : Option (List (Int × Int)) := match x with
  | .dct kvs => some kvs
  | .g n => match g[n]? with
    | some (.dct kvs) => some kvs
    | _ => none
  | _ => none
section
variable {W : Wd} {E : XK} {X : Cx} {F : Fb} {H : Hp} {g : List Cell}
/-- d[k] -/
def dgetD : D → D → List Cell → Option D := fun x y g => match dctOf x g, y with
  | some kvs, .int k => (valI kvs k).map D.int
  | _, _ => none
/-- k in d, k not in d -/
def dinD (neg : Bool) : D → D → List Cell → Option D := fun y x g => match y, dctOf x g with
  | .int k, some kvs => some (.bl (if neg then !(valI kvs k).isSome else (valI kvs k).isSome))
  | _, _ => none
variable {k : Nat} {o i value : Expr} {pos pos' : Pos} {mo mi mv : M D}
/-- d[k] = v, d in a cell -/
def dputS (mv mo mi : M D) : MS := fun e g => (mv e g).toS fun d g1 => (mo e g1).toS fun x g2 => (mi e g2).toS fun y g3 => match d, x, y with
  | .int v, .g n, .int k => match g3[n]? with
    | some (.dct kvs) => if kvs.length < 16777216 then .nx e (g3.set n (.dct (putI kvs k v))) else .bad
    | _ => .bad
  | _, _, _ => .bad
/-! ### new ones -/
/-- {} : a new cell -/
def dNewM : M D := fun _ g => .ok (.g g.length) (g ++ [.dct []])
/-- {k: v} of constants: data -/
def dOneM (k v : Int) : M D := fun _ g => .ok (.dct [(k, v)]) g
end
/-! ### data behind the call that made them -/
mutual
theorem Rep.low {W : Wd} {F F' F2 : Fb} {H H' : Hp} (hth : ∃ more, F'.th = F.th ++ more) (h2 : F2.th = F.th) (hh : ∀ a, F2.has a → F'.has a) : ∀ {d : D} {u0 u : V}, Rep W F H d u0 → Rep W F' H' d u → Rep W F2 H' d u
  | .non, _, _, _, h => h
  | .bl _, _, _, _, h => h
  | .int _, _, _, _, h => h
  | .str _, _, _, _, h => h
  | .tup ds, _, _, h0, h => by
    obtain ⟨_, vs0, _, _, r0⟩ := h0
    obtain ⟨a, vs, e, t, r⟩ := h
    refine ⟨a, vs, e, ?_, RepL.low hth h2 hh r0 r⟩
    rcases t with ⟨t, n⟩ | t
    · exact .inl ⟨t, fun z => n (hh a z)⟩
    · exact .inr t
  | .lst ds, _, _, h0, h => by
    obtain ⟨_, vs0, _, _, _, r0⟩ := h0
    obtain ⟨a, vs, e, t, n, r⟩ := h
    exact ⟨a, vs, e, t, fun z => n (hh a z), RepL.low hth h2 hh r0 r⟩
  | .ob c d, _, _, h0, h => by
    obtain ⟨_, _, _, _, _, _, r0⟩ := h0
    obtain ⟨a, dx, x, e, t, n, r⟩ := h
    exact ⟨a, dx, x, e, t, fun z => n (hh a z), Rep.low hth h2 hh r0 r⟩
  | .g n, _, _, h0, h => by
    obtain ⟨a0, e0, _⟩ := h0
    obtain ⟨a, e, r⟩ := h
    obtain ⟨more, hm⟩ := hth
    refine ⟨a, ?_, r⟩
    rw [hm, List.getElem?_append_left (List.getElem?_eq_some_iff.mp e0).1] at e
    rw [h2]; exact e
  | .sc ns, _, _, _, h => by
    obtain ⟨a, e, t⟩ := h
    refine ⟨a, e, ?_⟩
    rcases t with ⟨t, n⟩ | t
    · exact .inl ⟨t, fun z => n (hh a z)⟩
    · exact .inr t
  | .cl _, _, _, _, h => h
  | .dct _, _, _, _, h => by
    obtain ⟨a, e, t, n⟩ := h
    exact ⟨a, e, t, fun z => n (hh a z)⟩
  | .exc c d, _, _, h0, h => by
    obtain ⟨_, _, _, _, _, _, _, _, r0⟩ := h0
    obtain ⟨a, dx, x, e, t, n, t2, n2, r⟩ := h
    exact ⟨a, dx, x, e, t, fun z => n (hh a z), t2, fun z => n2 (hh dx z), Rep.low hth h2 hh r0 r⟩
  | .da ds, _, _, h0, h => by
    obtain ⟨_, vs0, _, _, _, r0⟩ := h0
    obtain ⟨a, vs, e, t, n, r⟩ := h
    exact ⟨a, vs, e, t, fun z => n (hh a z), RepL.low hth h2 hh r0 r⟩
theorem RepL.low {W : Wd} {F F' F2 : Fb} {H H' : Hp} (hth : ∃ more, F'.th = F.th ++ more) (h2 : F2.th = F.th) (hh : ∀ a, F2.has a → F'.has a) : ∀ {ds : List D} {us vs : List V}, RepL W F H ds us → RepL W F' H' ds vs → RepL W F2 H' ds vs
  | [], _, _, _, h => h
  | d :: ds, _, _, h0, h => by
    obtain ⟨u, us, _, a0, b0⟩ := h0
    obtain ⟨v, r, e, a, b⟩ := h
    exact ⟨v, r, e, Rep.low hth h2 hh a0 a, RepL.low hth h2 hh b0 b⟩
end
mutual
def eqD : D → D → Bool
  | .non, .non => true
  | .bl a, .bl b => decide (a = b)
  | .int a, .int b => decide (a = b)
  | .str a, .str b => decide (a = b)
  | .tup xs, .tup ys => eqDs xs ys
  | .lst xs, .lst ys => eqDs xs ys
  | .ob c x, .ob k y => decide (c = k) && eqD x y
  | .g n, .g m => decide (n = m)
  | .sc a, .sc b => decide (a = b)
  | .cl a, .cl b => decide (a = b)
  | .dct a, .dct b => decide (a = b)
  | .exc c x, .exc k y => decide (c = k) && eqD x y
  | .da xs, .da ys => eqDs xs ys
  | _, _ => false
def eqDs : List D → List D → Bool
  | [], [] => true
  | x :: xs, y :: ys => eqD x y && eqDs xs ys
  | _, _ => false
end
mutual
theorem eqD_ok : ∀ {a b : D}, eqD a b = true → a = b
  | .non, b, h => by cases b <;> simp [eqD] at h; rfl
  | .bl _, b, h => by cases b <;> simp [eqD] at h; rw [h]
  | .int _, b, h => by cases b <;> simp [eqD] at h; rw [h]
  | .str _, b, h => by cases b <;> simp [eqD] at h; rw [h]
  | .tup xs, b, h => by cases b <;> simp [eqD] at h; rw [eqDs_ok h]
  | .lst xs, b, h => by cases b <;> simp [eqD] at h; rw [eqDs_ok h]
  | .ob _ x, b, h => by cases b <;> simp [eqD] at h; rw [h.1, eqD_ok h.2]
  | .g _, b, h => by cases b <;> simp [eqD] at h; rw [h]
  | .sc _, b, h => by cases b <;> simp [eqD] at h; rw [h]
  | .cl _, b, h => by cases b <;> simp [eqD] at h; rw [h]
  | .dct _, b, h => by cases b <;> simp [eqD] at h; rw [h]
  | .exc _ x, b, h => by cases b <;> simp [eqD] at h; rw [h.1, eqD_ok h.2]
  | .da xs, b, h => by cases b <;> simp [eqD] at h; rw [eqDs_ok h]
theorem eqDs_ok : ∀ {xs ys : List D}, eqDs xs ys = true → xs = ys
  | [], ys, h => by cases ys <;> simp [eqDs] at h; rfl
  | x :: xs, ys, h => by cases ys <;> simp [eqDs] at h; rw [eqD_ok h.1, eqDs_ok h.2]
end
mutual
theorem eqD_self : ∀ a : D, eqD a a = true
  | .non => rfl
  | .bl _ => decide_eq_true rfl
  | .int _ => decide_eq_true rfl
  | .str _ => decide_eq_true rfl
  | .tup xs => eqDs_self xs
  | .lst xs => eqDs_self xs
  | .ob _ x => by simp [eqD, eqD_self x]
  | .g _ => decide_eq_true rfl
  | .sc _ => decide_eq_true rfl
  | .cl _ => decide_eq_true rfl
  | .dct _ => decide_eq_true rfl
  | .exc _ x => by simp [eqD, eqD_self x]
  | .da xs => eqDs_self xs
theorem eqDs_self : ∀ xs : List D, eqDs xs xs = true
  | [] => rfl
  | x :: xs => by simp [eqDs, eqD_self x, eqDs_self xs]
end
def eqC : Cell → Cell → Bool
  | .lst xs, .lst ys => eqDs xs ys
  | .ob c x, .ob k y => decide (c = k) && eqD x y
  | .dct a, .dct b => decide (a = b)
  | .tbl a, .tbl b => decide (a = b)
  | _, _ => false
theorem eqC_self (a : Cell) : eqC a a = true := by
  cases a <;> simp [eqC, eqDs_self, eqD_self]
def eqG : List Cell → List Cell → Bool
  | [], [] => true
  | x :: xs, y :: ys => eqC x y && eqG xs ys
  | _, _ => false
theorem eqG_self : ∀ xs : List Cell, eqG xs xs = true
  | [] => rfl
  | x :: xs => by simp [eqG, eqC_self x, eqG_self xs]
/-- the one new cell of a call, a dict, becomes data -/
def dropC (g1 : List Cell) : R D → R D
  | .ok (.g m) g2 => match g2[m]? with
    | some (.dct kvs) => if m = g1.length ∧ eqG g2 (g1 ++ [.dct kvs]) = true then .ok (.dct kvs) g1 else .bad
    | _ => .bad
  | .ex c d g => .ex c d g
  | _ => .bad
theorem dropC_ok (g1 : List Cell) (kvs : List (Int × Int)) : dropC g1 (.ok (.g g1.length) (g1 ++ [.dct kvs])) = .ok (.dct kvs) g1 := by
  unfold dropC
  simp only [List.getElem?_concat_length]
  rw [if_pos ⟨trivial, eqG_self _⟩]
def callDM (n : Nat) (f : List D → List Cell → R D) (m : M (List D)) : M D := fun e g => (m e g).bind fun ds g1 => if ds.length = n then dropC g1 (f ds g1) else .bad
section
variable {W : Wd} {E : XK} {X : Cx} {F : Fb} {H : Hp} {g : List Cell}
variable {CX : CXT} {k n : Nat} {f : Addr} {fd : FuncData} {ps : List Str} {fs : List D → List Cell → R D} {x : Str} {p pos : Pos} {e : Expr} {es : List Expr} {mr : M (List D)}
end
/-! ### a dict that is walked -/
theorem rd_ne {H : Hp} {a b : Addr} {k : List (Key × V)} {o : HO} (h : Rd H a (.dK k)) (e : Rd H b o) (n : ∀ k, o ≠ .dK k) (n2 : ∀ od u, o ≠ .frz od u) : b ≠ a := fun z => by
  subst z
  rcases h with h | ⟨od, h⟩ <;> rcases e with e | ⟨oe, e⟩
  · rw [h] at e; cases e; exact n _ rfl
  · rw [h] at e; cases e
  · rw [h] at e
    cases e
    exact n2 _ _ rfl
  · rw [h] at e; cases e; exact n _ rfl
theorem rd_eq {H : Hp} {a : Addr} {k k' : List (Key × V)} (h : Rd H a (.dK k)) (e : Rd H a (.dK k')) : k' = k := by
  rcases h with h | ⟨od, h⟩ <;> rcases e with e | ⟨oe, e⟩ <;> (rw [h] at e; first | (cases e; rfl) | cases e)
theorem rd_mv {H H' : Hp} {b : Addr} {o : HO} (e : H' b = H b) (h : Rd H b o) : Rd H' b o := by
  unfold Rd
  rw [e]
  exact h
section
variable {W : Wd} {F : Fb} {H H' : Hp} {a : Addr} {k : List (Key × V)}
mutual
theorem Rep.relab {W : Wd} {F : Fb} {H H' : Hp} {a : Addr} {k : List (Key × V)} (hH : Rd H a (.dK k)) (h2 : Rd H' a (.dK k)) (hne : ∀ b, b ≠ a → H' b = H b) : ∀ {d : D} {v : V}, Rep W F H d v → Rep W F H' d v
  | .non, _, h => h
  | .bl _, _, h => h
  | .int _, _, h => h
  | .str _, _, h => h
  | .tup ds, _, h => by
    obtain ⟨b, vs, e, t, r⟩ := h
    refine ⟨b, vs, e, ?_, RepL.relab hH h2 hne r⟩
    rcases t with ⟨t, n⟩ | t
    · exact .inl ⟨rd_mv (hne b (rd_ne hH t (fun _ z => nomatch z) fun _ _ z => nomatch z)) t, n⟩
    · exact .inr t
  | .lst ds, _, h => by
    obtain ⟨b, vs, e, t, n, r⟩ := h
    exact ⟨b, vs, e, (hne b (rd_ne hH (.inl t) (fun _ z => nomatch z) fun _ _ z => nomatch z)).trans t, n, RepL.relab hH h2 hne r⟩
  | .ob c d, _, h => by
    obtain ⟨b, dx, u, e, t, n, r⟩ := h
    exact ⟨b, dx, u, e, (hne b (rd_ne hH (.inl t) (fun _ z => nomatch z) fun _ _ z => nomatch z)).trans t, n, Rep.relab hH h2 hne r⟩
  | .g _, _, h => h
  | .sc ns, _, h => by
    obtain ⟨b, e, t⟩ := h
    refine ⟨b, e, ?_⟩
    rcases t with ⟨⟨o, t⟩, n⟩ | t
    · exact .inl ⟨⟨o, (hne b (rd_ne hH (.inr ⟨o, t⟩) (fun _ z => nomatch z) fun _ _ z => nomatch z)).trans t⟩, n⟩
    · exact .inr t
  | .cl _, _, h => h
  | .dct ks, _, h => by
    obtain ⟨b, e, t, n⟩ := h
    refine ⟨b, e, ?_, n⟩
    by_cases z : b = a
    · subst z
      rw [rd_eq hH t]
      exact h2
    · exact rd_mv (hne b z) t
  | .exc c d, _, h => by
    obtain ⟨b, dx, u, e, t, n, t2, n2, r⟩ := h
    exact ⟨b, dx, u, e, (hne b (rd_ne hH (.inl t) (fun _ z => nomatch z) fun _ _ z => nomatch z)).trans t, n, (hne dx (rd_ne hH (.inl t2) (fun _ z => nomatch z) fun _ _ z => nomatch z)).trans t2, n2, Rep.relab hH h2 hne r⟩
  | .da ds, _, h => by
    obtain ⟨b, vs, e, t, n, r⟩ := h
    refine ⟨b, vs, e, ?_, n, RepL.relab hH h2 hne r⟩
    by_cases z : b = a
    · subst z
      rw [rd_eq hH t]
      exact h2
    · exact rd_mv (hne b z) t
theorem RepL.relab {W : Wd} {F : Fb} {H H' : Hp} {a : Addr} {k : List (Key × V)} (hH : Rd H a (.dK k)) (h2 : Rd H' a (.dK k)) (hne : ∀ b, b ≠ a → H' b = H b) : ∀ {ds : List D} {vs : List V}, RepL W F H ds vs → RepL W F H' ds vs
  | [], _, h => h
  | d :: ds, _, h => by
    obtain ⟨v, r, e, x, y⟩ := h
    exact ⟨v, r, e, Rep.relab hH h2 hne x, RepL.relab hH h2 hne y⟩
end
theorem Cells.relab {g : List Cell} (c : Cells W F H g) (hn : ¬ F.has a) (hH : Rd H a (.dK k)) (h2 : Rd H' a (.dK k)) (hne : ∀ b, b ≠ a → H' b = H b) : Cells W F H' g := by
  refine ⟨c.nd, c.len, fun n b y h1 h3 => ?_, fun b z => ?_, c.dj, c.dj2⟩
  · have hb : b ≠ a := fun z => hn (.inr (.inr (by rw [← z]; exact List.mem_of_getElem? h1)))
    have q := c.cel n b y h1 h3
    cases y with
    | lst ds =>
      obtain ⟨vs, e, r⟩ := q
      exact ⟨vs, (hne b hb).trans e, r.relab hH h2 hne⟩
    | ob cc d =>
      obtain ⟨dx, u, e, r⟩ := q
      exact ⟨dx, u, (hne b hb).trans e, r.relab hH h2 hne⟩
    | dct ks => exact (hne b hb).trans q
    | tbl q' =>
      obtain ⟨e0, ps, e, t, r⟩ := q
      refine ⟨e0, ps, (hne b hb).trans e, t, fun pos cv hc => ?_⟩
      obtain ⟨d, e1, e2, e3⟩ := r pos cv hc
      exact ⟨d, e1, (hne d fun z => by
        subst z
        rcases hH with w | ⟨_, w⟩ <;> · rw [w] at e2; cases e2).trans e2, e3⟩
  · obtain ⟨o, e⟩ := c.tr b z
    exact ⟨o, by rw [hne b fun w => hn (by rw [← w]; exact z)]; exact e⟩
theorem St.relab {e : Env} {g : List Cell} {σ : L2.St} (S : St W F e g σ H) (hn : ¬ F.has a) (hH : Rd H a (.dK k)) (h2 : Rd H' a (.dK k)) (hne : ∀ b, b ≠ a → H' b = H b) : St W F e g σ H' := by
  refine ⟨S.cells.relab hn hH h2 hne, S.len, fun i d h => ?_, fun i ds h => ?_, S.apart⟩
  · obtain ⟨v, h1, h3⟩ := S.slots i d h
    exact ⟨v, h1, h3.relab hH h2 hne⟩
  · obtain ⟨b, vs, h1, h3, h4, h5⟩ := S.owns i ds h
    exact ⟨b, vs, h1, h3, (hne b fun w => hn (by rw [← w]; exact .inr (.inl h3))).trans h4, h5.relab hH h2 hne⟩
/-- slot i holds a dict that is locked -/
def Lk (i : Nat) (σ : L2.St) (H : Hp) : Prop := ∃ a o k, σ[i]? = some (some (.ref a)) ∧ H a = some (.frz o (.dK k))
def lckM {α : Type} (i : Nat) (m : M α) : M α := fun e g => match e[i]? with
  | some (.v (.dct _)) => (m e g).noex
  | _ => .bad
def lckS (i : Nat) (m : MS) : MS := fun e g => match e[i]? with
  | some (.v (.dct _)) => (match m e g with
    | .nx e1 g1 => .nx e1 g1
    | _ => .bad)
  | _ => .bad
/-- the pairs -/
def itmL (kvs : List (Int × Int)) : List D := kvs.map fun p => .tup [.int p.1, .int p.2]
def itemsIt (i : Nat) : M (List D) := fun e g => match e[i]? with
  | some (.v (.dct kvs)) => .ok (itmL kvs) g
  | _ => .bad
end
section
variable {W : Wd} {E : XK} {X : Cx} {i : Nat} {f : D → Env → Option Env} {v1 : List Nat} {tg iter elt : Expr} {body : List Stmt} {s1 : MS} {na : M Bool} {ma : M D} {ifs : List Expr} {scope : Scope} {own : List (Str × Nat)} {pos : Pos} {mr : M (List D)}
end
/-! ### max of a list of pairs of ints -/
def prI (p : Int × Int) : D := .tup [.int p.1, .int p.2]
def pairOf : D → Option (Int × Int)
  | .tup [.int a, .int b] => some (a, b)
  | _ => none
def pairsOf : List D → Option (List (Int × Int))
  | [] => some []
  | d :: ds => match pairOf d, pairsOf ds with
    | some p, some ps => some (p :: ps)
    | _, _ => none
/-- the first of the greatest, by the first entry, then the second -/
def maxP (x : Int × Int) (ps : List (Int × Int)) : Int × Int := PySem.W.maxOf x ps
def maxTF : List D → List Cell → Option D := fun ds _ => match ds with
  | [.lst xs] => match pairsOf xs with
    | some (p :: ps) => some (prI (maxP p ps))
    | _ => none
  | _ => none
def rMaxP (K : PySem.W.Frag) : List V → Hp → VK → Prop := fun vs H Q => ∃ (a : Addr) (us : List V) (x : Int × Int) (ps : List (Int × Int)), vs = [V.ref a] ∧ SqL K H a us ∧ DpAll K H us ((x :: ps).map PySem.W.Datum.toD) ∧ ∀ (v : V) (i : Nat), us[i]? = some v → (x :: ps)[i]? = some (maxP x ps) → Q v H
end Ev

/-! Ev31: what runs from a state whose sleeping generators cannot be woken runs alike where they can be, and leaves them asleep. -/
namespace Slp
open PySem
open Sem (wp)
def susp : GenState → Bool
  | .suspended .. => true
  | _ => false
def killOne : GenState → GenState
  | .suspended _ l c p fs cl => .suspended (fun _ => .unsupported "asleep") l c p fs cl
  | x => x
theorem kill_seen (x : GenState) : (killOne x).seen = x.seen := by cases x <;> rfl
theorem kill_live {x : GenState} (h : susp x = false) : killOne x = x := by cases x <;> first | rfl | cases h
/-- the sleepers of G0 lie dead in G -/
structure Dd (G0 G : Array GenState) : Prop where
  size : G0.size ≤ G.size
  dead : ∀ (i : Nat) (x : GenState), G0[i]? = some x → susp x = true → G[i]? = some (killOne x)
  free : ∀ (i : Nat) k l c p fs cl, G[i]? = some (.suspended k l c p fs cl) → (∃ x, G0[i]? = some x ∧ susp x = true) ∨ splitAtGen fs = none
def back (G0 : Array GenState) (i : Nat) (x : GenState) : GenState := match G0[i]? with
  | some y => if susp y = true then y else x
  | none => x
def rv (G0 : Array GenState) (s : Shared) : Shared := { s with gens := s.gens.mapIdx (back G0) }
variable {G0 G : Array GenState} {M : Model}
theorem back_none {i : Nat} {x : GenState} (h : G0.size ≤ i) : back G0 i x = x := by
  unfold back
  rw [Array.getElem?_eq_none h]
theorem back_dead {i : Nat} {x y : GenState} (h : G0[i]? = some y) (k : susp y = true) : back G0 i x = y := by
  unfold back
  rw [h]
  simp only [k, if_true]
theorem back_live {i : Nat} {x : GenState} (h : ¬ ∃ y, G0[i]? = some y ∧ susp y = true) : back G0 i x = x := by
  unfold back
  split
  · rename_i y e
    rw [if_neg fun z => h ⟨y, e, z⟩]
  · rfl
theorem rv_get {s : Shared} {i : Nat} : (rv G0 s).gens[i]? = (s.gens[i]?).map (back G0 i) := by
  unfold rv
  rw [Array.getElem?_mapIdx]
theorem rv_size {s : Shared} : (rv G0 s).gens.size = s.gens.size := by
  unfold rv
  rw [Array.size_mapIdx]
theorem arr_ext {a b : Array GenState} (h : ∀ i : Nat, a[i]? = b[i]?) : a = b := Array.ext_getElem? h
theorem rv_push {s : Shared} {x : GenState} (h : G0.size ≤ s.gens.size) : rv G0 { s with gens := s.gens.push x } = { rv G0 s with gens := (rv G0 s).gens.push x } := by
  unfold rv
  congr 1
  refine arr_ext fun i => ?_
  rw [Array.getElem?_mapIdx, Array.getElem?_push, Array.getElem?_push, Array.size_mapIdx]
  by_cases q : i = s.gens.size
  · rw [if_pos q, if_pos q]
    simp only [Option.map_some]
    rw [back_none (by omega)]
  · rw [if_neg q, if_neg q, Array.getElem?_mapIdx]
theorem rv_set {s : Shared} {i : Nat} {x : GenState} (h : ¬ ∃ y, G0[i]? = some y ∧ susp y = true) : rv G0 (s.setGen i x) = (rv G0 s).setGen i x := by
  unfold rv Shared.setGen
  congr 1
  refine arr_ext fun j => ?_
  rw [Array.getElem?_mapIdx, Array.getElem?_setIfInBounds, Array.getElem?_setIfInBounds, Array.size_mapIdx, Array.getElem?_mapIdx]
  by_cases q : i = j
  · subst q
    rw [if_pos rfl, if_pos rfl]
    split
    · simp only [Option.map_some]
      rw [back_live h]
    · rfl
  · rw [if_neg q, if_neg q]
theorem Dd.push {c : Code} (h : Dd G0 G) : Dd G0 (G.push (.fresh c)) := by
  refine ⟨by rw [Array.size_push]; exact Nat.le_succ_of_le h.size, fun i x e k => ?_, fun i k l c p fs cl e => ?_⟩
  · have hi := (Array.getElem?_eq_some_iff.mp e).1
    rw [Array.getElem?_push, if_neg (by have := h.size; omega)]
    exact h.dead i x e k
  · rw [Array.getElem?_push] at e
    split at e
    · cases e
    · exact h.free i k l c p fs cl e
theorem Dd.set {i : Nat} {x : GenState} (h : Dd G0 G) (hl : ¬ ∃ y, G0[i]? = some y ∧ susp y = true) (hx : ∀ k l c p fs cl, x = .suspended k l c p fs cl → splitAtGen fs = none) : Dd G0 (G.setIfInBounds i x) := by
  refine ⟨by rw [Array.size_setIfInBounds]; exact h.size, fun j y e k => ?_, fun j k l c p fs cl e => ?_⟩
  · rw [Array.getElem?_setIfInBounds, if_neg fun z => hl ⟨y, by rw [z]; exact e, k⟩]
    exact h.dead j y e k
  · rw [Array.getElem?_setIfInBounds] at e
    split at e
    · split at e
      · exact .inr (hx _ _ _ _ _ _ (Option.some.inj e))
      · cases e
    · exact h.free j k l c p fs cl e
theorem live_of {i : Nat} {x : GenState} (h : Dd G0 G) (e : G[i]? = some x) (hx : susp x = false) : ¬ ∃ y, G0[i]? = some y ∧ susp y = true := by
  rintro ⟨y, e1, e2⟩
  have := h.dead i y e1 e2
  rw [e] at this
  cases this
  cases y <;> simp [susp, killOne] at e2 hx
theorem back_seen {i : Nat} {x : GenState} (h : Dd G0 G) (e : G[i]? = some x) : (back G0 i x).seen = x.seen := by
  by_cases z : ∃ y, G0[i]? = some y ∧ susp y = true
  · obtain ⟨y, z1, z2⟩ := z
    have := h.dead i y z1 z2
    rw [e] at this
    cases this
    rw [back_dead z1 z2, kill_seen]
  · rw [back_live z]
theorem susp_case {i : Nat} {k : Resume → Sem PySem.Fin} {l : List Value} {c : Code} {p : Pos} {fs : List Frame} {cl : Bool} (h : Dd G0 G) (e : G[i]? = some (.suspended k l c p fs cl)) :
    (k = fun _ => .unsupported "asleep") ∨ ((¬ ∃ y, G0[i]? = some y ∧ susp y = true) ∧ splitAtGen fs = none) := by
  by_cases z : ∃ y, G0[i]? = some y ∧ susp y = true
  · obtain ⟨y, z1, z2⟩ := z
    have := h.dead i y z1 z2
    rw [e] at this
    cases y <;> first | (cases this; exact .inl rfl) | (simp [susp] at z2)
  · exact .inr ⟨z, (h.free _ _ _ _ _ _ _ e).resolve_left z⟩
theorem split_app : ∀ {a b : List Frame}, splitAtGen a = none → splitAtGen b = none → splitAtGen (a ++ b) = none
  | [], b, _, h => h
  | .ret .. :: a, b, h, k => by
    show (splitAtGen (a ++ b)).map _ = none
    have h : (splitAtGen a).map _ = none := h
    rw [Option.map_eq_none_iff] at h ⊢
    exact split_app h k
  | .gen .. :: a, b, h, k => by cases h
def EndNG : End → Prop
  | .ret _ => True
  | .susp _ _ _ _ _ _ fs => splitAtGen fs = none
theorem end_gen {e : End} (h : EndNG e) : ∀ k l c p fs cl, e.genState = .suspended k l c p fs cl → splitAtGen fs = none := by
  intro k l c p fs cl q
  cases e with
  | ret r => cases q
  | susp v g l0 k0 c0 p0 fs0 => cases q; exact h
theorem no_runs {Γ : Ctx} {p : Pos} {t : Sem PySem.Fin} {fs : List Frame} {s s' : Shared} {e : End} (h : Runs M Γ p t fs s e s') : ∀ w, t ≠ .unsupported w := by
  induction h with
  | segRet _ _ ih _ => exact ih
  | segGen _ _ ih _ => exact ih
  | segSuspOut _ _ ih => exact ih
  | segSuspGen _ _ _ _ ih _ => exact ih
  | _ => intro w z; cases z
theorem runs_rv {Γ : Ctx} {p : Pos} {t : Sem PySem.Fin} {fs : List Frame} {s s' : Shared} {e : End} (h : Runs M Γ p t fs s e s') :
    Dd G0 s.gens → splitAtGen fs = none → Dd G0 s'.gens ∧ EndNG e ∧ Runs M Γ p t fs (rv G0 s) e (rv G0 s') := by
  induction h with
  | done => exact fun d _ => ⟨d, trivial, .done⟩
  | raise => exact fun d _ => ⟨d, trivial, .raise⟩
  | again q _ ih => exact fun d n => let ⟨a, b, c⟩ := ih d n; ⟨a, b, .again q c⟩
  | rule _ ih => exact fun d n => let ⟨a, b, c⟩ := ih d n; ⟨a, b, .rule c⟩
  | «at» _ ih => exact fun d n => let ⟨a, b, c⟩ := ih d n; ⟨a, b, .at c⟩
  | load q _ ih => exact fun d n => let ⟨a, b, c⟩ := ih d n; ⟨a, b, .load q c⟩
  | update q _ ih => exact fun d n => let ⟨a, b, c⟩ := ih d n; ⟨a, b, .update q c⟩
  | loadIfAlive _ ih => exact fun d n => let ⟨a, b, c⟩ := ih d n; ⟨a, b, .loadIfAlive c⟩
  | point _ ih => exact fun d n => let ⟨a, b, c⟩ := ih d n; ⟨a, b, .point c⟩
  | alloc _ ih => exact fun d n => let ⟨a, b, c⟩ := ih d n; ⟨a, b, .alloc c⟩
  | fresh _ ih => exact fun d n => let ⟨a, b, c⟩ := ih d n; ⟨a, b, .fresh c⟩
  | ask _ ih => exact fun d n => let ⟨a, b, c⟩ := ih d n; ⟨a, b, .ask c⟩
  | choose q _ ih => exact fun d n => let ⟨a, b, c⟩ := ih d n; ⟨a, b, .choose q c⟩
  | os _ ih => exact fun d n => let ⟨a, b, c⟩ := ih d n; ⟨a, b, .os c⟩
  | handled _ ih => exact fun d n => let ⟨a, b, c⟩ := ih d n; ⟨a, b, .handled c⟩
  | genState q _ ih =>
    intro d n
    obtain ⟨a, b, c⟩ := ih d n
    exact ⟨a, b, .genState (by rw [rv_get, q]; rfl) (by rw [back_seen d q]; exact c)⟩
  | stack _ ih => exact fun d n => let ⟨a, b, c⟩ := ih d n; ⟨a, b, .stack c⟩
  | thread _ ih => exact fun d n => let ⟨a, b, c⟩ := ih d n; ⟨a, b, .thread c⟩
  | newGen _ ih =>
    intro d n
    obtain ⟨a, b, c⟩ := ih d.push n
    rw [rv_push d.size] at c
    exact ⟨a, b, .newGen (by rw [rv_size]; exact c)⟩
  | call _ _ ih1 ih2 =>
    intro d n
    obtain ⟨a1, _, c1⟩ := ih1 d rfl
    obtain ⟨a, b, c⟩ := ih2 a1 n
    exact ⟨a, b, .call c1 c⟩
  | callSusp _ ih =>
    intro d n
    obtain ⟨a, b, c⟩ := ih d rfl
    exact ⟨a, split_app b rfl, .callSusp c⟩
  | yield => exact fun d n => ⟨d, rfl, .yield⟩
  | resumeFresh q _ hq _ ih1 ih2 =>
    intro d n
    have hl := live_of d q rfl
    obtain ⟨a1, b1, c1⟩ := ih1 (d.set hl fun _ _ _ _ _ _ z => by cases z) rfl
    obtain ⟨a, b, c⟩ := ih2 (a1.set hl (end_gen b1)) n
    rw [rv_set hl] at c1 c
    exact ⟨a, b, .resumeFresh (by rw [rv_get, q]; simp only [Option.map_some]; rw [back_live hl]) c1 hq c⟩
  | resumeSuspended q h1 hq _ ih1 ih2 =>
    intro d n
    rcases susp_case d q with z | ⟨z, hn⟩
    · subst z
      exact absurd rfl (no_runs h1 _)
    · obtain ⟨a1, b1, c1⟩ := ih1 (d.set z fun _ _ _ _ _ _ w => by cases w) hn
      obtain ⟨a, b, c⟩ := ih2 (a1.set z (end_gen b1)) n
      rw [rv_set z] at c1 c
      exact ⟨a, b, .resumeSuspended (by rw [rv_get, q]; simp only [Option.map_some]; rw [back_live z]) c1 hq c⟩
  | resumeJustStarted q hv _ ih =>
    intro d n
    obtain ⟨a, b, c⟩ := ih d n
    exact ⟨a, b, .resumeJustStarted (by rw [rv_get, q]; simp only [Option.map_some]; rw [back_live (live_of d q rfl)]) hv c⟩
  | resumeThrowFresh q _ ih =>
    intro d n
    have hl := live_of d q rfl
    obtain ⟨a, b, c⟩ := ih (d.set hl fun _ _ _ _ _ _ z => by cases z) n
    rw [rv_set hl] at c
    exact ⟨a, b, .resumeThrowFresh (by rw [rv_get, q]; simp only [Option.map_some]; rw [back_live hl]) c⟩
  | resumeRunning q _ ih =>
    intro d n
    obtain ⟨a, b, c⟩ := ih d n
    exact ⟨a, b, .resumeRunning (by rw [rv_get, q]; simp only [Option.map_some]; rw [back_live (live_of d q rfl)]) c⟩
  | resumeFinished q _ ih =>
    intro d n
    obtain ⟨a, b, c⟩ := ih d n
    exact ⟨a, b, .resumeFinished (by rw [rv_get, q]; simp only [Option.map_some]; rw [back_live (live_of d q rfl)]) c⟩
  | segRet _ _ ih1 ih2 =>
    intro d n
    obtain ⟨a1, _, c1⟩ := ih1 d rfl
    obtain ⟨a, b, c⟩ := ih2 a1 (Option.map_eq_none_iff.mp n)
    exact ⟨a, b, .segRet c1 c⟩
  | segGen _ _ _ _ => exact fun d n => by cases n
  | segSuspOut q _ ih =>
    intro d n
    obtain ⟨a, b, c⟩ := ih d rfl
    exact ⟨a, split_app b q, .segSuspOut q c⟩
  | segSuspGen q _ _ _ _ _ => exact fun d n => by rw [q] at n; cases n
/-- .. of parts of code -/
theorem returns_rv {Γ : Ctx} {p : Pos} {s s' : Shared} {r : Result} (h : Returns M Γ p s r s') (d : Dd G0 s.gens) : Dd G0 s'.gens ∧ Returns M Γ p (rv G0 s) r (rv G0 s') :=
  let ⟨a, _, c⟩ := runs_rv h d rfl
  ⟨a, c⟩
theorem wakes_rv {Γ : Ctx} {p : Pos} {g : Nat} {r : Resume} {s s' : Shared} {res : GenResult} (h : Wakes M Γ p g r s res s') (d : Dd G0 s.gens) : Dd G0 s'.gens ∧ Wakes M Γ p g r (rv G0 s) res (rv G0 s') := by
  unfold Wakes at h ⊢
  split at h
  · exact h.elim
  · rename_i c q
    have hl := live_of d q rfl
    have q2 : (rv G0 s).gens[g]? = some (.fresh c) := by rw [rv_get, q]; simp only [Option.map_some]; rw [back_live hl]
    rw [q2]
    split at h
    · obtain ⟨e₁, s₁, hr, hq, rfl, rfl⟩ := h
      obtain ⟨a1, b1, c1⟩ := runs_rv hr (d.set hl fun _ _ _ _ _ _ z => by cases z) rfl
      rw [rv_set hl] at c1
      exact ⟨a1.set hl (end_gen b1), e₁, rv G0 s₁, c1, hq, rfl, rv_set hl⟩
    · obtain ⟨rfl, rfl⟩ := h
      exact ⟨d, rfl, rfl⟩
    · obtain ⟨rfl, rfl⟩ := h
      exact ⟨d.set hl fun _ _ _ _ _ _ z => (by cases z), rfl, rv_set hl⟩
  · rename_i k₀ l₀ c₀ p₀ fs₀ cl₀ q
    obtain ⟨e₁, s₁, hr, hq, rfl, rfl⟩ := h
    rcases susp_case d q with z | ⟨hl, hn⟩
    · subst z
      exact absurd rfl (no_runs hr _)
    · have q2 : (rv G0 s).gens[g]? = some (.suspended k₀ l₀ c₀ p₀ fs₀ cl₀) := by rw [rv_get, q]; simp only [Option.map_some]; rw [back_live hl]
      rw [q2]
      obtain ⟨a1, b1, c1⟩ := runs_rv hr (d.set hl fun _ _ _ _ _ _ z => by cases z) hn
      rw [rv_set hl] at c1
      exact ⟨a1.set hl (end_gen b1), e₁, rv G0 s₁, c1, hq, rfl, rv_set hl⟩
  · rename_i q
    obtain ⟨rfl, rfl⟩ := h
    rw [show (rv G0 s').gens[g]? = some .running by rw [rv_get, q]; simp only [Option.map_some]; rw [back_live (live_of d q rfl)]]
    exact ⟨d, rfl, rfl⟩
  · rename_i q
    obtain ⟨rfl, rfl⟩ := h
    rw [show (rv G0 s').gens[g]? = some .finished by rw [rv_get, q]; simp only [Option.map_some]; rw [back_live (live_of d q rfl)]]
    exact ⟨d, rfl, rfl⟩
theorem wp_rv {α : Type} (Γ : Ctx) (t : Sem α) : ∀ (Q : α → Pos → Shared → Prop) (E : Value → Pos → Shared → Prop) (p : Pos) (s : Shared), Dd G0 s.gens → wp M Γ t Q E p s →
    wp M Γ t (fun a p' s' => ∃ s1, s' = rv G0 s1 ∧ Dd G0 s1.gens ∧ Q a p' s1) (fun e p' s' => ∃ s1, s' = rv G0 s1 ∧ Dd G0 s1.gens ∧ E e p' s1) p (rv G0 s) := by
  induction t with
  | pure a => exact fun Q E p s d h => ⟨s, rfl, d, h⟩
  | raise e => exact fun Q E p s d h => ⟨s, rfl, d, h⟩
  | unsupported _ => exact fun Q E p s _ h => h
  | finish _ => exact fun Q E p s _ h => h
  | rule _ k ih => exact fun Q E p s d h => ih () Q E p s d h
  | «at» p' k ih => exact fun Q E p s d h => ih () Q E p' s d h
  | load a _ k ih => exact fun Q E p s d h => let ⟨o, ho, h⟩ := h; ⟨o, ho, ih o Q E p s d h⟩
  | update a _ f k ih => exact fun Q E p s d h => ⟨h.1, ih () Q E p { s with heap := s.heap.update a f } d h.2⟩
  | loadIfAlive a k ih => exact fun Q E p s d h => ih _ Q E p s d h
  | point _ k ih => exact fun Q E p s d h => ih () Q E p s d h
  | register _ _ => exact fun Q E p s _ h => h
  | alloc o k ih => exact fun Q E p s d h => ih _ Q E p { s with heap := s.heap.push o } d h
  | fresh k ih => exact fun Q E p s d h => ih _ Q E p { s with toks := s.toks + 1 } d h
  | ask k ih => exact fun Q E p s d h => ih _ Q E p s d h
  | choose src m k ih => exact fun Q E p s d h => ⟨h.1, ih _ Q E p { s with drawn := s.drawn.bump src } d h.2⟩
  | os q _ k ih => exact fun Q E p s d h => ih _ Q E p { s with os := (Os.step s.os q).1 } d h
  | call c hd _ _ k ih =>
    intro Q E p s d h
    obtain ⟨r, s', hr, h⟩ := h
    obtain ⟨d1, h1⟩ := returns_rv hr d
    exact ⟨r, rv G0 s', h1, ih r Q E p s' d1 h⟩
  | handled own k ih => exact fun Q E p s d h => ih _ Q E p s d h
  | genState g k ih =>
    intro Q E p s d h
    obtain ⟨st, q, h⟩ := h
    exact ⟨back G0 g st, by rw [rv_get, q]; rfl, by rw [back_seen d q]; exact ih _ Q E p s d h⟩
  | newGen c k ih =>
    intro Q E p s d h
    have := ih s.gens.size Q E p { s with gens := s.gens.push (.fresh c) } d.push h
    rw [rv_push d.size] at this
    show wp M Γ (k (rv G0 s).gens.size) _ _ p _
    rw [rv_size]
    exact this
  | resume g r _ k ih =>
    intro Q E p s d h
    obtain ⟨res, s', hw, h⟩ := h
    obtain ⟨d1, h1⟩ := wakes_rv hw d
    exact ⟨res, rv G0 s', h1, ih res Q E p s' d1 h⟩
  | yield _ _ _ _ => exact fun Q E p s _ h => h
  | stack k ih => exact fun Q E p s d h => ih _ Q E p s d h
  | fork _ _ => exact fun Q E p s _ h => h
  | thread k ih => exact fun Q E p s d h => ih _ Q E p s d h
  | await _ _ _ _ _ => exact fun Q E p s _ h => h
/-- asleep -/
def kill (G : Array GenState) : Array GenState := G.map killOne
theorem kill_dd : Dd G (kill G) := by
  refine ⟨by unfold kill; rw [Array.size_map]; exact Nat.le_refl _, fun i x e k => ?_, fun i k l c p fs cl e => ?_⟩
  · unfold kill
    rw [Array.getElem?_map, e]; rfl
  · unfold kill at e
    rw [Array.getElem?_map] at e
    obtain ⟨x, e1, e2⟩ := Option.map_eq_some_iff.mp e
    cases x with
    | suspended => exact .inl ⟨_, e1, rfl⟩
    | _ => cases e2
theorem kill_back {s : Shared} : rv s.gens { s with gens := kill s.gens } = s := by
  obtain ⟨hp, g, d, t, o⟩ := s
  unfold rv kill
  congr 1
  refine arr_ext fun i => ?_
  rw [Array.getElem?_mapIdx, Array.getElem?_map]
  cases q : g[i]? with
  | none => rfl
  | some x =>
    simp only [Option.map_some]
    cases z : susp x with
    | true => rw [back_dead q z]
    | false => rw [kill_live z, back_live]; rintro ⟨y, e1, e2⟩; rw [q] at e1; cases e1; rw [z] at e2; cases e2
/-- what is shown from a state with all asleep holds, and those who slept sleep on -/
theorem wpAny_asleep {α : Type} {A : Around} {t : Sem α} {Q : α → Shared → Prop} {E : Value → Shared → Prop} {s : Shared} (h : wpAny M A t Q E { s with gens := kill s.gens }) :
    wpAny M A t (fun a s' => ∃ s1, s' = rv s.gens s1 ∧ Dd s.gens s1.gens ∧ Q a s1) (fun e s' => ∃ s1, s' = rv s.gens s1 ∧ Dd s.gens s1.gens ∧ E e s1) s := fun Γ p hΓ => by
  have := wp_rv (G0 := s.gens) Γ t _ _ p { s with gens := kill s.gens } kill_dd (h Γ p hΓ)
  rw [kill_back] at this
  exact this
theorem rv_asleep {s1 : Shared} (h : Dd G0 s1.gens) {i : Nat} {x : GenState} (e : G0[i]? = some x) (k : susp x = true) : (rv G0 s1).gens[i]? = some x := by
  rw [rv_get, h.dead i x e k]
  simp only [Option.map_some]
  rw [back_dead e k]
theorem rv_bare {s1 : Shared} (h : Dd G0 s1.gens) (b0 : ∀ x ∈ G0, x.bare = true) (b1 : ∀ x ∈ s1.gens, x.bare = true) : ∀ x ∈ (rv G0 s1).gens, x.bare = true := by
  intro x hx
  obtain ⟨i, hi, rfl⟩ := Array.mem_iff_getElem.mp hx
  have e : (rv G0 s1).gens[i]? = some (rv G0 s1).gens[i] := Array.getElem?_eq_getElem hi
  rw [rv_get] at e
  obtain ⟨y, e1, e2⟩ := Option.map_eq_some_iff.mp e
  rw [← e2]
  by_cases z : ∃ y, G0[i]? = some y ∧ susp y = true
  · obtain ⟨w, z1, z2⟩ := z
    rw [back_dead z1 z2]
    exact b0 w (Array.mem_of_getElem? z1)
  · rw [back_live z]
    exact b1 y (Array.mem_of_getElem? e1)
theorem kill_bare (b : ∀ x ∈ G, x.bare = true) : ∀ x ∈ kill G, x.bare = true := by
  intro x hx
  obtain ⟨y, hy, rfl⟩ := Array.mem_map.mp hx
  have := b y hy
  cases y <;> exact this
end Slp

/-! Ev32: a generator's turns, each with what its consumer gives it. -/
namespace Tn
open PySem PySem.Spec PyProof.Rows GenW
open Sem (wp)
section
variable {M : Model} {A : Around} {Φ : End → Shared → Prop} {c : Code} {fs : List Frame} {s : Shared}
/-- from here on the code runs to an end of which Φ holds -/
def To (M : Model) (A : Around) (Φ : End → Shared → Prop) (c : Code) (t : Sem PySem.Fin) (fs : List Frame) (s : Shared) : Prop :=
  ∀ Γ p, Γ.code = c → Γ.Woken A → ∃ e s1, Runs M Γ p t fs s e s1 ∧ Φ e s1
theorem to_wrap {α : Type} {m : Sem α} {k : α → Sem PySem.Fin} {j : Value → Sem PySem.Fin} {gd : Bool → Bool} {lv : List Value → List Value}
    (h : wpAny M (A.over c fs) m (fun a s1 => To M A Φ c (k a) fs s1) (fun x s1 => To M A Φ c (j x) fs s1) s) : To M A Φ c (m.wrap k j gd lv) fs s := by
  intro Γ p e w
  subst e
  exact runs_wrap_of_wp k j gd lv m (h (Γ.over fs) p (w.over fs)) (fun a q s1 z => z Γ q rfl w) fun x q s1 z => z Γ q rfl w
theorem to_at {q : Pos} {k : Unit → Sem PySem.Fin} (h : To M A Φ c (k ()) fs s) : To M A Φ c (.at q k) fs s :=
  to_wrap (m := standAt q) (k := k) (j := .raise) (gd := id) (lv := id) (wpAny_standAt h)
theorem to_point {l : List Value} {k : Unit → Sem PySem.Fin} (h : To M A Φ c (k ()) fs s) : To M A Φ c (.point l k) fs s :=
  to_wrap (m := point) (k := k) (j := .raise) (gd := id) (lv := fun _ => l) (wpAny_point h)
theorem to_call {d : Code} {h g l} {k : Result → Sem PySem.Fin} (z : ∀ p, To M A Φ d (M.den d) (.ret k h g l c p [] :: fs) s) : To M A Φ c (.call d h g l k) fs s := by
  intro Γ p e w
  subst e
  obtain ⟨e, s1, r, y⟩ := z p (Γ.goto d) p rfl (w.goto d)
  exact ⟨e, s1, runs_call_seg r, y⟩
theorem to_leaf {k : Result → Sem PySem.Fin} {h g l c1 p1 kp} (r : Result) (z : To M A Φ c1 (k r) fs s) : To M A Φ c (leafOf r) (.ret k h g l c1 p1 kp :: fs) s := by
  intro Γ p e w
  subst e
  obtain ⟨e, s1, r1, y⟩ := z (Γ.goto c1) p1 rfl (w.goto c1)
  exact ⟨e, s1, Runs.pop r r1, y⟩
theorem to_again {d : Code} (q : d.quiet = true) (z : To M A Φ d (M.den d) fs s) : To M A Φ c (.pure (.again d)) fs s := by
  intro Γ p e w
  subst e
  obtain ⟨e, s1, r, y⟩ := z (Γ.goto d) p rfl (w.goto d)
  exact ⟨e, s1, Runs.head (c₁ := d) (fun _ _ x => .again q x) r, y⟩
theorem to_end (r : Result) (h : Φ (.ret r) s) : To M A Φ c (leafOf r) [] s := by
  intro Γ p e _
  exact ⟨.ret r, s, Runs.leaf r, h⟩
theorem to_yield {v : Value} {g : Bool} {l : List Value} {k : Resume → Sem PySem.Fin} (n : splitAtGen fs = none) (h : ∀ p, Φ (.susp v g l k c p fs) s) : To M A Φ c (.yield v g l k) fs s := by
  intro Γ p e _
  subst e
  exact ⟨_, s, Runs.yield' fs n, h p⟩
variable {env : PySem.Env} {K : Flow → Sem PySem.Fin} {J : Value → Sem PySem.Fin} {gd : Bool → Bool} {lv : List Value → List Value}
theorem to_nil (h : To M A Φ c (K .next) fs s) : To M A Φ c ((execs [] env).wrap K J gd lv) fs s := h
theorem to_cons {st : Stmt} {r : List Stmt} (h : To M A Φ c ((exec st env).wrap (fun f => match f with | .next => (execs r env).wrap K J gd lv | f => K f) J gd lv) fs s) : To M A Φ c ((execs (st :: r) env).wrap K J gd lv) fs s := by
  rw [execs_cons_wrap]
  exact h
/-- yield e -/
theorem to_Yield {e : Expr} {p1 p2 : Pos} (n : splitAtGen fs = none) (hg : gd false = false) (hf : fs.any Frame.guarded = false)
    (h : wpAny M (A.over c fs) (eval e env) (fun v s1 => ∀ l k p, (∀ (Ψ : End → Shared → Prop) s2, To M A Ψ c (K .next) fs s2 → To M A Ψ c (k (.send .none)) fs s2) → Φ (.susp v false l k c p fs) s1) (fun x s1 => To M A Φ c (J x) fs s1) s)
    (hco : env.scope.isCoroutine = false := by rfl) (hi : interactive env = false := by rfl) : To M A Φ c ((exec (.Expr (.Yield (some e) p1) p2) env).wrap K J gd lv) fs s := by
  rw [exec_Expr env _ p2 hi rfl]
  have y : ∀ v, yieldOut env v = yieldValue v := fun v => by unfold yieldOut; rw [hco]; rfl
  show To M A Φ c (.at p2 fun _ => ((eval e env >>= fun v => (standAt p1 >>= fun _ => yieldOut env v)) >>= fun x => dropValue (.Yield (some e) p1) p2 x).wrap K J gd lv) fs s
  simp only [y]
  refine to_at ?_
  rw [Sem.bind_eq_wrap', Sem.bind_eq_wrap', Sem.wrap_wrap, Sem.wrap_wrap]
  refine to_wrap (wpAny_mono h (fun v s1 z => to_at ?_) fun _ _ z => z)
  refine to_yield (g := gd false) n fun p => ?_
  rw [hg]
  exact z _ _ _ fun Ψ s2 q => q
/-- a loop's own call -/
theorem to_While {t : Expr} {b o : List Stmt} {pos : Pos}
    (h : ∀ p, To M A Φ (.whileLoop t b o env) (M.den (.whileLoop t b o env)) (.ret (fun r => ((match r with | .ok f => (.pure f : Sem Flow) | .error e => .raise e).onRaise fun (x : Value) => do
        if (← field x 1) == Value.none then unsupported "frame.own-activation:exception-without-traceback"
        setFlight x env.frame).wrap K J gd lv) none (gd false) (lv []) c p [] :: fs) s) : To M A Φ c ((exec (.While t b o pos) env).wrap K J gd lv) fs s := to_at (to_call h)
end
section
variable {P : Program} {w : World} {A : Around} {Φ : End → Shared → Prop} {fs : List Frame} {s : Shared} {env : PySem.Env}
theorem to_while {t : Expr} {b : List Stmt}
    (h : wpAny (model P w) (A.over (.whileLoop t b [] env) fs) (isTrue t env (eval t env)) (fun r s1 =>
        if r = true then To (model P w) A Φ (.whileLoop t b [] env) ((execs b env).wrap (fun f => match f with
            | .next | .cont => .pure (.again (.whileLoop t b [] env))
            | .brk => .pure (.done .next)
            | .ret v => .pure (.done (.ret v))) (fun e => (do noteFrame e env; theTreesLotGoes e : Sem Unit).wrap (fun _ => .raise e) .raise id id) id id) fs s1
        else To (model P w) A Φ (.whileLoop t b [] env) (.pure (.done .next)) fs s1) (fun _ _ => False) s) :
    To (model P w) A Φ (.whileLoop t b [] env) ((model P w).den (.whileLoop t b [] env)) fs s := by
  show To _ A Φ _ ((whileTurn t b [] env).onRaise (fun x => do noteFrame x env; theTreesLotGoes x)) fs s
  unfold whileTurn
  rw [Sem.onRaise_eq_wrap, Sem.bind_eq_wrap', Sem.wrap_wrap]
  refine to_wrap (wpAny_mono h (fun r s1 z => ?_) fun x s1 z => z.elim)
  cases r with
  | true =>
    rw [if_pos rfl] at z
    show To _ A Φ _ (Sem.wrap _ _ _ _ (if true = true then _ else _)) fs s1
    rw [if_pos rfl, Sem.bind_eq_wrap', Sem.wrap_wrap]
    rw [Sem.wrap_congr (execs b env) _ _ (K' := fun f => match f with
          | .next | .cont => .pure (.again (.whileLoop t b [] env))
          | .brk => .pure (.done .next)
          | .ret v => .pure (.done (.ret v))) (H' := (fun e => (do noteFrame e env; theTreesLotGoes e : Sem Unit).wrap (fun _ => .raise e) .raise id id))
      (fun f => by cases f <;> rfl) (fun e => by first | exact Sem.bind_eq_wrap _ _ | (show (do noteFrame e env; theTreesLotGoes e : Sem Unit).bind (fun _ => .raise e) = _; rw [Sem.bind_eq_wrap]))]
    exact z
  | false =>
    rw [if_neg Bool.false_ne_true] at z
    show To _ A Φ _ (Sem.wrap _ _ _ _ (if false = true then _ else _)) fs s1
    rw [if_neg Bool.false_ne_true]
    exact z
theorem to_func {b : List Stmt} (h : To (model P w) A Φ (.func b env) ((execs b env).wrap (fun f => .pure (.done (.ret (match f with | .ret v => v | _ => .none)))) (fun e => (leaving env e).wrap (fun _ => .raise e) .raise id id) id id) fs s) :
    To (model P w) A Φ (.func b env) ((model P w).den (.func b env)) fs s := by
  show To _ A Φ _ (.point [] fun _ => ((execs b env).onRaise (leaving env)) >>= _) fs s
  refine to_point ?_
  rw [Sem.onRaise_eq_wrap, Sem.bind_eq_wrap', Sem.wrap_wrap]
  rw [Sem.wrap_congr (execs b env) _ _ (K' := fun f => .pure (.done (.ret (match f with | .ret v => v | _ => .none)))) (H' := fun e => (leaving env e).wrap (fun _ => .raise e) .raise id id)
    (fun f => by cases f <;> rfl) (fun e => by rw [Sem.bind_eq_wrap, Sem.wrap_wrap]; rfl)]
  exact h
end

/-! ### turn by turn; z: what this turn was given, s0: the state that it began in -/
abbrev EndP (γ : Type) := Nat → γ → Shared → Result → Shared → Prop
abbrev YldP (γ : Type) := Nat → γ → Shared → Value → Shared → (γ → Shared → Prop) → Prop
def EndT {γ : Type} (M : Model) (A : Around) (R : EndP γ) (Y : YldP γ) : Nat → γ → Shared → End → Shared → Prop
  | n, z, s0, .ret r, s => R n z s0 r s
  | 0, _, _, .susp .., _ => False
  | n + 1, z, s0, .susp v g l k c p fs, s => (End.susp v g l k c p fs).quiet = true ∧ Y n z s0 v s fun z1 s1 => To M A (EndT M A R Y n z1 s1) c (k (.send .none)) fs s1
theorem EndT.quiet {γ : Type} {M : Model} {A : Around} {R : EndP γ} {Y : YldP γ} {n : Nat} {z : γ} {s0 s : Shared} {e : End} (h : EndT M A R Y n z s0 e s) : e.quiet = true := by
  cases e with
  | ret r => rfl
  | susp v g l k c p fs =>
    cases n with
    | zero => exact h.elim
    | succ n => exact h.1
/-- .. from a generator's state -/
def Goes (M : Model) (A : Around) (Φ : End → Shared → Prop) (gs : GenState) (s : Shared) : Prop := match gs with
  | .fresh c => To M A Φ c (M.den c) [] s
  | .suspended k _ c _ fs _ => To M A Φ c (k (.send .none)) fs s
  | _ => False
section
variable {M : Model} {A : Around} {Φ : End → Shared → Prop} {s : Shared} {E : Value → Shared → Prop}
theorem wp_resume {g : Nat} {gs : GenState} {l : List Value} {α : Type} {k : GenResult → Sem α} {Q : α → Shared → Prop} (hg : s.gens[g]? = some gs) (hq : ∀ e s1, Φ e s1 → e.quiet = true) (go : Goes M A Φ gs (s.setGen g .running))
    (h : ∀ e s1, Φ e s1 → wpAny M A (k e.result) Q E (s1.setGen g e.genState)) : wpAny M A (.resume g (.send .none) l k) Q E s := by
  intro Γ p w
  rw [Sem.wp_resume]
  cases gs with
  | fresh c =>
    obtain ⟨e, s1, r, z⟩ := go (Γ.wake c p) p rfl (w.wake c p)
    refine ⟨_, _, ?_, h e s1 z Γ p w⟩
    unfold Wakes
    rw [hg]
    exact ⟨e, s1, r, hq e s1 z, rfl, rfl⟩
  | suspended k0 l0 c p0 fs cl =>
    obtain ⟨e, s1, r, z⟩ := go (Γ.wake c p) p0 rfl (w.wake c p)
    refine ⟨_, _, ?_, h e s1 z Γ p w⟩
    unfold Wakes
    rw [hg]
    exact ⟨e, s1, r, hq e s1 z, rfl, rfl⟩
  | running => exact go.elim
  | finished => exact go.elim
end
section
variable {P : Program} {w : World} {A : Around} {E : Value → Shared → Prop} {s : Shared} {γ : Type} {R : EndP γ} {Y : YldP γ}
/-- next(g) -/
theorem wp_next {a : Addr} {g n : Nat} {z : γ} {gs : GenState} {Q : Option Value → Shared → Prop} (hh : A.handled = none) (hl : s.heap.NoLimit) (hd : A.depth < recursionLimit) (hg : s.heap.IsGen a g) (hs : s.gens[g]? = some gs)
    (go : Goes (model P w) A.in1 (EndT (model P w) A.in1 R Y n z (s.setGen g .running)) gs (s.setGen g .running)) (hR : ∀ n z s0 r s1, R n z s0 r s1 → r = .ok (.ret .none))
    (some_ : ∀ v s1 gs1, (match n with | 0 => False | m + 1 => gs1.bare = true ∧ Slp.susp gs1 = true ∧ Y m z (s.setGen g .running) v s1 fun z2 s2 => Goes (model P w) A.in1 (EndT (model P w) A.in1 R Y m z2 s2) gs1 s2) → Q (some v) (s1.setGen g gs1))
    (none_ : ∀ s1, R n z (s.setGen g .running) (.ok (.ret .none)) s1 → ∀ h1, (∀ b o, s1.heap.get? b = some o → h1.get? b = some o) → Q none { s1.setGen g .finished with heap := h1 }) :
    wpAny (model P w) A (pyNext (.ref a)) Q E s := by
  unfold pyNext
  refine wpAny_bind (wpAny_attempt (wpAny_callSpecial?_slot (name := Str.ofString "__next__") hg.typeIs slot_gen_next (wpAny_call_entry slot_gen_next hg.typeIs entry_gen_next ?_ (args_gen_next _))))
  show wpAny _ A.in1 (Builtin.Generator.genWake (.ref a) (.send .none)) _ _ s
  unfold Builtin.Generator.genWake
  refine wpAny_bind (wpAny_holding (wpAny_genNumber hg (wpAny_bind (wpAny_genState hs ?_))))
  cases gs with
  | running => exact go.elim
  | finished => exact go.elim
  | _ =>
    refine wpAny_bind (wpAny_roomToWake hl hd ?_)
    show wpAny _ A.in1 (.resume g (.send .none) [] _) _ _ s
    refine wp_resume hs (fun e s1 q => q.quiet) go fun e s1 q => ?_
    cases e with
    | ret x =>
      have q : R n z (s.setGen g .running) x s1 := by
        cases n <;> exact q
      have ex := hR _ _ _ _ _ q
      subst ex
      show wpAny _ A.in1 (newExc (.type "StopIteration") [] >>= _) _ _ _
      refine wpAny_bind ?_
      simp only [newExc, newTuple]
      refine wpAny_bind (wpAny_newObj_type ?_ (by size_fits))
      refine wpAny_bind (m := firstArgMember _ _) (wpAny_of_eq (a := Value.none) (by first | rfl | (simp only [firstArgMember]; rfl)) ?_)
      refine wpAny_newObj_type ?_ (by size_fits)
      simp only [raiseNew]
      refine wpAny_bind (wpAny_bind (wpAny_handled ?_))
      first | rw [show A.in1.handled = none from hh] | rw [hh]
      refine wpAny_throw ?_
      refine wpAny_bind (wpAny_isInstance (T := "StopIteration") (b := true) ⟨_, Heap.get?_push_size _ rfl, rfl⟩ isSubtype_stop ?_)
      exact wpAny_pure (none_ s1 q _ fun b o hb => Heap.get?_push_of_some _ (Heap.get?_push_of_some _ hb))
    | susp v g0 l0 k0 c0 p0 fs0 =>
      refine wpAny_pure ⟨v, rfl, wpAny_pure (some_ v s1 _ ?_)⟩
      cases n with
      | zero => exact q.elim
      | succ m => exact ⟨End.bare_of_quiet q.1, rfl, q.2⟩
end
end Tn

/-! Ev33: a sleeping generator within its consumer's heap; how it is woken, and left. -/
namespace Ev
open PySem PySem.Spec PyProof.Rows L2
open Classical
/-! ### data under another look: all but the things that are known to the object stays -/
/-- a thing that is known to the object, of no use to data -/
def sx (o : Obj) (b : Addr) : HO := .ext fun h => h.get? b = some o
def NX (o : HO) : Prop := ∀ u b, o ≠ sx u b
/-- a heap with the same object everywhere -/
def sameHeap (n : Nat) (o : Obj) : Heap := { objs := (List.replicate n o).toArray }
theorem sameHeap_get {n a : Nat} {c : Value} {d : Option Addr} {vs : Array Value} {sl : Array (Option Value)} (h : a < n) : (sameHeap n ⟨c, d, .fields vs, sl⟩).get? a = some ⟨c, d, .fields vs, sl⟩ := by
  have e : ((List.replicate n (⟨c, d, .fields vs, sl⟩ : Obj)).toArray)[a]? = some ⟨c, d, .fields vs, sl⟩ := by
    rw [List.getElem?_toArray, List.getElem?_replicate, if_pos h]
  show (match ((List.replicate n (⟨c, d, .fields vs, sl⟩ : Obj)).toArray)[a]? with
    | some ⟨_, _, .freed, _⟩ => none
    | o => o) = _
  rw [e]
theorem nx_two {φ : Heap → Prop} {a : Addr} {c c' : Value} {d d' : Option Addr} {vs vs' : Array Value} (ne : vs ≠ vs') (h1 : ∀ n, a < n → φ (sameHeap n ⟨c, d, .fields vs, #[]⟩)) (h2 : ∀ n, a < n → φ (sameHeap n ⟨c', d', .fields vs', #[]⟩)) : NX (.ext φ) := fun u b z => by
  unfold sx at z
  injection z with z
  have l1 : a < a + b + 1 := Nat.lt_succ_of_le (Nat.le_add_right a b)
  have l2 : b < a + b + 1 := Nat.lt_succ_of_le (Nat.le_add_left b a)
  have k1 := h1 _ l1
  have k2 := h2 _ l1
  rw [z] at k1 k2
  rw [sameHeap_get l2] at k1 k2
  cases k1
  injection k2 with k2
  injection k2 with _ _ k3 _
  injection k3 with k3
  exact ne k3.symm
theorem exv_nx {a C d : Addr} : NX (exv a C d) :=
  nx_two (a := a) (c := .ref C) (c' := .ref C) (d := some d) (d' := some d) (vs := #[]) (vs' := #[.none]) (by decide) (fun n h => ⟨_, _, sameHeap_get h, rfl, rfl, rfl⟩) (fun n h => ⟨_, _, sameHeap_get h, rfl, rfl, rfl⟩)
theorem codeO_nx {c : Addr} {q : Str} : NX (LamX.CodeO c q) :=
  nx_two (a := c) (c := .none) (c' := .none) (d := none) (d' := none) (vs := #[.none, .str q default]) (vs' := #[.ellipsis, .str q default]) (by intro z; cases z) (fun n h => ⟨_, _, _, sameHeap_get h, rfl, rfl⟩) (fun n h => ⟨_, _, _, sameHeap_get h, rfl, rfl⟩)
structure UpX (F F' : Fb) (H H' : Hp) : Prop where
  keep : ∀ a o, NX o → H a = some o → ¬F.has a → H' a = some o ∧ ¬F'.has a
  th : ∀ (n : Nat) a, F.th[n]? = some a → F'.th[n]? = some a
theorem Up.x {F F' : Fb} {H H' : Hp} (u : Up F F' H H') : UpX F F' H H' := ⟨fun a o _ h n => u.keep a o h n, fun n a h => by
  obtain ⟨m, e⟩ := u.th
  rw [e, List.getElem?_append_left (List.getElem?_eq_some_iff.mp h).1]
  exact h⟩
section
variable {W : Wd} {F F' : Fb} {H H' : Hp}
theorem UpX.rd {a : Addr} {o : HO} (u : UpX F F' H H') (nx : NX o) (h : Rd H a o) (n : ¬F.has a) : Rd H' a o ∧ ¬F'.has a := by
  rcases h with h | ⟨x, h⟩
  · obtain ⟨k, m⟩ := u.keep a o nx h n
    exact ⟨.inl k, m⟩
  · obtain ⟨k, m⟩ := u.keep a _ (fun _ _ z => by unfold sx at z; cases z) h n
    exact ⟨.inr ⟨x, k⟩, m⟩
mutual
theorem Rep.upx (u : UpX F F' H H') : ∀ {d : D} {v : V}, Rep W F H d v → Rep W F' H' d v
  | .non, v, h => h
  | .bl _, v, h => h
  | .int _, v, h => h
  | .str _, v, h => h
  | .cl _, v, h => h
  | .tup ds, v, h => by
    obtain ⟨a, vs, e, t, r⟩ := h
    refine ⟨a, vs, e, ?_, RepL.upx u r⟩
    rcases t with ⟨t, n⟩ | t
    · exact .inl (u.rd (fun _ _ z => by unfold sx at z; cases z) t n)
    · exact .inr t
  | .lst ds, v, h => by
    obtain ⟨a, vs, e, t, n, r⟩ := h
    obtain ⟨k, m⟩ := u.keep a _ (fun _ _ z => by unfold sx at z; cases z) t n
    exact ⟨a, vs, e, k, m, RepL.upx u r⟩
  | .ob c d, v, h => by
    obtain ⟨a, dx, x, e, t, n, r⟩ := h
    obtain ⟨k, m⟩ := u.keep a _ (fun _ _ z => by unfold sx at z; cases z) t n
    exact ⟨a, dx, x, e, k, m, Rep.upx u r⟩
  | .g n, v, h => by
    obtain ⟨a, e, r⟩ := h
    exact ⟨a, u.th n a e, r⟩
  | .dct kvs, v, h => by
    obtain ⟨a, e, t, n⟩ := h
    exact ⟨a, e, u.rd (fun _ _ z => by unfold sx at z; cases z) t n⟩
  | .exc c d, v, h => by
    obtain ⟨a, dx, x, e, t, n, t2, n2, r⟩ := h
    obtain ⟨k, m⟩ := u.keep a _ exv_nx t n
    obtain ⟨k2, m2⟩ := u.keep dx _ (fun _ _ z => by unfold sx at z; cases z) t2 n2
    exact ⟨a, dx, x, e, k, m, k2, m2, Rep.upx u r⟩
  | .da ds, v, h => by
    obtain ⟨a, vs, e, t, n, r⟩ := h
    obtain ⟨k, m⟩ := u.rd (fun _ _ z => by unfold sx at z; cases z) t n
    exact ⟨a, vs, e, k, m, RepL.upx u r⟩
  | .sc ns, v, h => by
    obtain ⟨a, e, t⟩ := h
    refine ⟨a, e, ?_⟩
    rcases t with ⟨⟨o, t⟩, n⟩ | t
    · obtain ⟨k, m⟩ := u.keep a _ (fun _ _ z => by unfold sx at z; cases z) t n
      exact .inl ⟨⟨o, k⟩, m⟩
    · exact .inr t
theorem RepL.upx (u : UpX F F' H H') : ∀ {ds : List D} {vs : List V}, RepL W F H ds vs → RepL W F' H' ds vs
  | [], vs, h => h
  | d :: ds, vs, h => by
    obtain ⟨v, r, e, h1, h2⟩ := h
    exact ⟨v, r, e, Rep.upx u h1, RepL.upx u h2⟩
end
/-- the same addresses, more or other things of no use to data -/
theorem UpX.same {F : Fb} {H H' : Hp} (k : ∀ a o, NX o → H a = some o → H' a = some o) : UpX F F H H' := ⟨fun a o nx h n => ⟨k a o nx h, n⟩, fun _ _ h => h⟩
theorem CellR.nx {a : Addr} {c : Cell} (k : ∀ a o, NX o → H a = some o → H' a = some o) (h : CellR W F H a c) : CellR W F H' a c := by
  cases c with
  | lst ds =>
    obtain ⟨vs, e, r⟩ := h
    exact ⟨vs, k _ _ (fun _ _ z => by unfold sx at z; cases z) e, r.upx (.same k)⟩
  | ob c d =>
    obtain ⟨dx, x, e, r⟩ := h
    exact ⟨dx, x, k _ _ (fun _ _ z => by unfold sx at z; cases z) e, r.upx (.same k)⟩
  | dct kvs => exact k _ _ (fun _ _ z => by unfold sx at z; cases z) h
  | tbl q =>
    obtain ⟨e0, ps, e, t, r⟩ := h
    refine ⟨e0, ps, k _ _ (fun _ _ z => by unfold sx at z; cases z) e, t, fun pos cv hc => ?_⟩
    obtain ⟨d, e1, e2, e3⟩ := r pos cv hc
    exact ⟨d, e1, k _ _ codeO_nx e2, e3⟩
theorem Cells.nx {g : List Cell} (k : ∀ a o, NX o → H a = some o → H' a = some o) (st : ∀ a o, H a = some o → ∃ o', H' a = some o') (c : Cells W F H g) : Cells W F H' g :=
  ⟨c.nd, c.len, fun n a x h1 h2 => (c.cel n a x h1 h2).nx k, fun a h => by
    obtain ⟨o, e⟩ := c.tr a h
    exact st a o e, c.dj, c.dj2⟩
theorem St.nx {e : Env} {g : List Cell} {σ : L2.St} (k : ∀ a o, NX o → H a = some o → H' a = some o) (st : ∀ a o, H a = some o → ∃ o', H' a = some o') (s : St W F e g σ H) : St W F e g σ H' :=
  ⟨s.cells.nx k st, s.len, fun i d h => by
    obtain ⟨v, h1, h2⟩ := s.slots i d h
    exact ⟨v, h1, h2.upx (.same k)⟩, fun i ds h => by
    obtain ⟨a, vs, h1, h2, h3, h4⟩ := s.owns i ds h
    exact ⟨a, vs, h1, h2, k _ _ (fun _ _ z => by unfold sx at z; cases z) h3, h4.upx (.same k)⟩, s.apart⟩
end
theorem sx_nx {o : Obj} {b : Addr} (n : NX (sx o b)) : False := n _ _ rfl
theorem sx_ok {P : Program} {w : World} {H : Hp} {h : Heap} {o : Obj} {b : Addr} (e : h.get? b = some o) : ObjOk P w H h b (sx o b) := ⟨e, ⟨o, e⟩, fun _ _ p k => k o p⟩
theorem ok_at {P : Program} {w : World} {H : Hp} {h : Heap} {a : Addr} : ∀ {o : HO}, ObjOk P w H h a o → ∃ u, h.get? a = some u
  | .lst xs, x => let ⟨_, _, _, _, e⟩ := x; ⟨_, e⟩
  | .tup xs, x => let ⟨_, _, _, _, e, _⟩ := x; ⟨_, e⟩
  | .dK kvs, x => let ⟨_, _, _, _, _, _, _, e, _⟩ := x; ⟨_, e⟩
  | .dT kvs, x => let ⟨_, _, _, _, _, _, _, e, _⟩ := x; ⟨_, e⟩
  | .set S n, x => let ⟨_, _, _, _, e, _⟩ := x; ⟨_, e⟩
  | .ins C dx fs, x => let ⟨_, _, _, e, _⟩ := x; ⟨_, e⟩
  | .own y, x => x
  | .xd fs, x => let ⟨_, ⟨_, _, _, e, _⟩, _⟩ := x; ⟨_, e⟩
  | .rng lo hi, x => let ⟨_, _, _, e⟩ := x; ⟨_, e⟩
  | .frz o u, x => let ⟨e, _⟩ := x; ⟨_, e⟩
  | .tbl ps, x => ⟨_, (show h.get? a = some _ from x)⟩
  | .met f y, x => ⟨_, (show h.get? a = some _ from x)⟩
  | .ext φ, x => let ⟨_, e, _⟩ := x; e
/-- the heap's first L objects -/
def cutHeap (L : Addr) (h : Heap) : Heap := { h with objs := h.objs.extract 0 L }
theorem cut_get {L : Nat} {h : Heap} {b : Nat} (lt : b < L) : (cutHeap L h).get? b = h.get? b := by
  have e : (h.objs.extract 0 L)[b]? = h.objs[b]? := by
    rw [Array.getElem?_extract]
    by_cases z : b < h.objs.size
    · have q : b < min L h.objs.size - 0 := by omega
      rw [if_pos q, Nat.zero_add]
    · have q : ¬ b < min L h.objs.size - 0 := by omega
      rw [if_neg q]
      exact (Array.getElem?_eq_none (Nat.le_of_not_lt z)).symm
  unfold Heap.get? cutHeap
  simp only [e]
theorem cut_size {L : Nat} {h : Heap} (le : L ≤ h.objs.size) : (cutHeap L h).objs.size = L := by
  show (h.objs.extract 0 L).size = L
  rw [Array.size_extract]
  omega
theorem cut_lt {L : Nat} {h : Heap} {b : Nat} {o : Obj} (le : L ≤ h.objs.size) (e : (cutHeap L h).get? b = some o) : b < L ∧ h.get? b = some o := by
  have lt := Heap.lt_size e
  rw [cut_size le] at lt
  rw [cut_get lt] at e
  exact ⟨lt, e⟩
def cutHp (L : Addr) (H : Hp) : Hp := fun b => if b < L then H b else none
end Ev

/-! Ev34: a generator's turn within its consumer's heap: woken, and left. -/
namespace Ev
open PySem PySem.Spec PyProof.Rows L2
open Classical
/-- what does not change through a generator's life; B: what was there ahead of it -/
structure Gx where
  P : Program
  w : World
  W : Wd
  mg : Str → Option Value
  base : Heap
  N : List Str
  qual : Str
  sc : Scope
  f : Addr
  cdv : Value
  A : Around
  out : List PySem.Env
  L : Nat
  B : Addr → Prop
def Gx.env (C : Gx) : PySem.Env := envOfC C.qual C.sc C.L C.f C.cdv
def Gx.cx (C : Gx) (s : Shared) (H : Hp) : Cx where
  prog := C.P
  w := C.w
  K := C.W.K
  mg := C.mg
  base := C.base
  A := C.A.deeper C.env
  N := C.N
  s_0 := s
  H_0 := H
  env := C.env
  outer := C.out
  stack := C.env :: C.out
  ex := []
  calm := true
  fn := fun _ => true
  pn := []
  xe := fun _ _ => False
/-- the frame's own things: its names, its cells -/
def Gx.fr (C : Gx) (b : Addr) : Prop := b = C.L ∨ ∃ x, C.env.cells.lookup x = some b
def Gx.Ok (C : Gx) : Prop := (∃ s H, s.heap.objs.size = C.L ∧ (C.cx s H).Ok) ∧ ∀ b, C.fr b → ¬C.B b
/-- what the consumer gives for a turn: its heap, the addresses that are none of the generator's -/
structure Gv where
  H : Hp
  F : Fb
def Fb.to (F : Fb) (om : List Addr) : Fb := ⟨F.nu ++ F.om ++ F.th, om, []⟩
theorem to_has {F : Fb} {om : List Addr} {a : Addr} : (F.to om).has a ↔ F.has a ∨ a ∈ om := by
  unfold Fb.has Fb.to
  simp only [List.mem_append, List.not_mem_nil, or_false]
  constructor
  · intro z
    rcases z with z | z
    · rcases z with z | z
      · rcases z with z | z
        · exact .inl (.inl z)
        · exact .inl (.inr (.inl z))
      · exact .inl (.inr (.inr z))
    · exact .inr z
  · intro z
    rcases z with z | z
    · rcases z with z | z
      · exact .inl (.inl (.inl z))
      · rcases z with z | z
        · exact .inl (.inl (.inr z))
        · exact .inl (.inr z)
    · exact .inr z
structure Wk (C : Gx) (z : Gv) (s : Shared) : Prop where
  e0 : Env0 C.P C.w C.W.K C.mg C.base C.A C.out s z.H
  tr : ∀ a, z.F.has a → ∃ o, z.H a = some o
  B : ∀ a, C.B a → ∃ o, z.H a = some o
/-- known to its object, none of the consumer's -/
structure Own (C : Gx) (z : Gv) (h : Heap) (b : Addr) : Prop where
  obj : ∃ o, h.get? b = some o ∧ z.H b = some (sx o b)
  no : ¬z.F.has b
  B : ¬C.B b
/-- asleep -/
structure Zz (C : Gx) (e : Env) (z : Gv) (h : Heap) (σ : L2.St) (om : List Addr) (lv : Addr → List V) (m : Str → Option Value) : Prop where
  len : e.length = σ.length
  ln : σ.length = C.N.length
  ns : h.Ns C.L m
  look : ∀ (i : Nat) (x : Str) (v : V), C.N[i]? = some x → σ[i]? = some (some v) → Vis C.sc x → ∃ u, RelV v u ∧ L2.Look C.env h m x u
  cell : ∀ x c, C.env.cells.lookup x = some c → ∃ v, h.IsCell c v
  fr : ∀ b, C.fr b → Own C z h b
  oms : ∀ b ∈ om, Own C z h b ∧ ¬C.fr b ∧ (lv b).length ≤ sizeLine ∧ ∃ (its : List Value) (n : Nat), Vals (lv b) its ∧ h.get? b = some { cls := .type "list", data := .seq its.toArray n }
  slots : ∀ (i : Nat) (d : D), e[i]? = some (.v d) → ∃ v, σ[i]? = some (some v) ∧ Rep C.W (z.F.to om) z.H d v
  owns : ∀ (i : Nat) (ds : List D), e[i]? = some (.own ds) → ∃ a, σ[i]? = some (some (.ref a)) ∧ a ∈ om ∧ RepL C.W (z.F.to om) z.H ds (lv a)
  apart : ∀ (i j : Nat) (ds es : List D) (a : Addr), i ≠ j → e[i]? = some (.own ds) → e[j]? = some (.own es) → σ[i]? = some (some (.ref a)) → σ[j]? ≠ some (some (.ref a))
theorem Own.on {C : Gx} {z z1 : Gv} {h h1 : Heap} {P : Program} {w : World} {b : Addr} (x : Own C z h b) (u : Up z.F z1.F z.H z1.H) (ok : HOk P w z1.H h1) : Own C z1 h1 b ∧ ∀ o, h.get? b = some o → h1.get? b = some o := by
  obtain ⟨o, e1, e2⟩ := x.obj
  obtain ⟨e3, n⟩ := u.keep b _ e2 x.no
  have e4 : h1.get? b = some o := (ok b _ e3).1
  exact ⟨⟨⟨o, e4, e3⟩, n, x.B⟩, fun o' q => by rw [e1] at q; cases q; exact e4⟩
/-- it sleeps on while the consumer goes on -/
theorem Zz.on {C : Gx} {e : Env} {z z1 : Gv} {h h1 : Heap} {P : Program} {w : World} {σ : L2.St} {om : List Addr} {lv : Addr → List V} {m : Str → Option Value} (x : Zz C e z h σ om lv m) (u : Up z.F z1.F z.H z1.H) (ok : HOk P w z1.H h1) : Zz C e z1 h1 σ om lv m := by
  have kL := ((x.fr C.L (.inl rfl)).on u ok).2
  have kC : ∀ y c, C.env.cells.lookup y = some c → ∀ o, h.get? c = some o → h1.get? c = some o := fun y c q => ((x.fr c (.inr ⟨y, q⟩)).on u ok).2
  have kcell : ∀ y c, C.env.cells.lookup y = some c → ∀ v, h.IsCell c v → h1.IsCell c v := fun y c q v ⟨o, e1, e2⟩ => ⟨o, kC y c q o e1, e2⟩
  have ux : UpX (z.F.to om) (z1.F.to om) z.H z1.H := ⟨fun a o nx q n => by
    rw [to_has, not_or] at n
    obtain ⟨k, m1⟩ := u.keep a o q n.1
    exact ⟨k, by rw [to_has, not_or]; exact ⟨m1, n.2⟩⟩, fun _ _ q => q⟩
  refine ⟨x.len, x.ln, ?_, fun i y v e1 e2 e3 => ?_, fun y c q => ?_, fun b q => ((x.fr b q).on u ok).1, fun b q => ?_, fun i d q => ?_, fun i ds q => ?_, x.apart⟩
  · obtain ⟨o, es, ep, e1, r⟩ := x.ns
    exact ⟨o, es, ep, kL o e1, r⟩
  · obtain ⟨v1, r, l⟩ := x.look i y v e1 e2 e3
    refine ⟨v1, r, ?_⟩
    rcases l with l | ⟨k, c, e, q⟩
    · exact .inl l
    · exact .inr ⟨k, c, e, kcell y c e _ q⟩
  · obtain ⟨v, q1⟩ := x.cell y c q
    exact ⟨v, kcell y c q v q1⟩
  · obtain ⟨o, nf, l, its, n, r, e1⟩ := x.oms b q
    exact ⟨(o.on u ok).1, nf, l, its, n, r, (o.on u ok).2 _ e1⟩
  · obtain ⟨v, e1, r⟩ := x.slots i d q
    exact ⟨v, e1, r.upx ux⟩
  · obtain ⟨a, e1, e2, r⟩ := x.owns i ds q
    exact ⟨a, e1, e2, r.upx ux⟩

/-! ### woken -/
noncomputable def wakeH (C : Gx) (om : List Addr) (lv : Addr → List V) (H : Hp) (h : Heap) : Hp := fun b =>
  if b ∈ om then some (.lst (lv b)) else if C.fr b then none else match H b with
    | some o => some o
    | none => if C.L ≤ b then (h.get? b).map fun o => sx o b else none
section
variable {C : Gx} {om : List Addr} {lv : Addr → List V} {H : Hp} {h : Heap} {b : Addr} {o : HO}
theorem wake_om (q : b ∈ om) : wakeH C om lv H h b = some (.lst (lv b)) := by unfold wakeH; rw [if_pos q]
theorem wake_fr (n : b ∉ om) (q : C.fr b) : wakeH C om lv H h b = none := by unfold wakeH; rw [if_neg n, if_pos q]
theorem wake_some (n : b ∉ om) (q : ¬C.fr b) (e : H b = some o) : wakeH C om lv H h b = some o := by unfold wakeH; rw [if_neg n, if_neg q, e]
theorem wake_low (n : b ∉ om) (q : ¬C.fr b) (e : H b = none) (l : ¬C.L ≤ b) : wakeH C om lv H h b = none := by unfold wakeH; rw [if_neg n, if_neg q, e]; simp only; rw [if_neg l]
theorem wake_new {ob : Obj} (n : b ∉ om) (q : ¬C.fr b) (e : H b = none) (l : C.L ≤ b) (g : h.get? b = some ob) : wakeH C om lv H h b = some (sx ob b) := by unfold wakeH; rw [if_neg n, if_neg q, e]; simp only; rw [if_pos l, g]; rfl
end
theorem un_cut {L : Nat} {fs ex : List Addr} {H : Hp} {h : Heap} (le : L ≤ h.objs.size) : Un fs ex (cutHp L H) H (cutHeap L h) h := by
  have low : ∀ b o, (cutHeap L h).get? b = some o → cutHp L H b = none → H b = none := fun b o e n => by
    have lt := (cut_lt le e).1
    unfold cutHp at n
    rw [if_pos (show b < L from lt)] at n
    exact n
  have up : ∀ b o, cutHp L H b = some o → H b = some o := fun b o e => by
    unfold cutHp at e
    split at e
    · exact e
    · cases e
  exact ⟨fun b o e _ _ _ => (cut_lt le e).2, fun b o e _ _ _ => ⟨o.slots, (cut_lt le e).2⟩, fun b o e n _ => low b o e n, fun b o e _ => ⟨o, (cut_lt le e).2⟩, fun b xs e => up b _ e, fun b x u e => up b _ e, fun b ps e => ⟨#[], by rw [up b _ e]; simp⟩⟩
section
variable {C : Gx} {e : Env} {z : Gv} {s : Shared} {σ : L2.St} {om : List Addr} {lv : Addr → List V} {m : Str → Option Value}
noncomputable abbrev Gx.at (C : Gx) (om : List Addr) (lv : Addr → List V) (z : Gv) (s : Shared) : Cx := C.cx { s with heap := cutHeap C.L s.heap } (cutHp C.L (wakeH C om lv z.H s.heap))
theorem wake_nx (x : Zz C e z s.heap σ om lv m) {b : Addr} {o : HO} (nx : NX o) (q : z.H b = some o) : b ∉ om ∧ ¬C.fr b ∧ wakeH C om lv z.H s.heap b = some o := by
  have n1 : b ∉ om := fun y => by
    obtain ⟨u, _, e2⟩ := (x.oms b y).1.obj
    rw [q] at e2; cases e2; exact sx_nx nx
  have n2 : ¬C.fr b := fun y => by
    obtain ⟨u, _, e2⟩ := (x.fr b y).obj
    rw [q] at e2; cases e2; exact sx_nx nx
  exact ⟨n1, n2, wake_some n1 n2 q⟩
theorem wake_hok (x : Zz C e z s.heap σ om lv m) (k : Wk C z s) : HOk C.P C.w (wakeH C om lv z.H s.heap) s.heap := by
  intro b o q
  by_cases h1 : b ∈ om
  · rw [wake_om h1] at q
    cases q
    obtain ⟨_, _, l, its, n, r, e1⟩ := x.oms b h1
    exact ⟨l, its, n, r, e1⟩
  by_cases h2 : C.fr b
  · rw [wake_fr h1 h2] at q; cases q
  cases h3 : z.H b with
  | some o1 =>
    rw [wake_some h1 h2 h3] at q
    cases q
    exact (k.e0.hok b o h3).stay (fun _ _ _ y => y) (fun d y => (wake_nx x (fun _ _ y => by unfold sx at y; cases y) y).2.2) fun d xs y => (wake_nx x (fun _ _ y => by unfold sx at y; cases y) y).2.2
  | none =>
    by_cases h4 : C.L ≤ b
    · cases h5 : s.heap.get? b with
      | none =>
        unfold wakeH at q
        rw [if_neg h1, if_neg h2, h3] at q
        simp only at q
        rw [if_pos h4, h5] at q
        cases q
      | some ob =>
        rw [wake_new h1 h2 h3 h4 h5] at q
        cases q
        exact sx_ok h5
    · rw [wake_low h1 h2 h3 h4] at q; cases q
theorem wake_ok (G : C.Ok) (x : Zz C e z s.heap σ om lv m) (k : Wk C z s) : (C.at om lv z s).Ok := by
  obtain ⟨⟨s1, H1, el, O⟩, _⟩ := G
  have Llt : C.L < s.heap.objs.size := x.ns.lt
  have le : C.L ≤ s.heap.objs.size := Nat.le_of_lt Llt
  have Lf : ∀ b, C.fr b → C.L ≤ b := fun b q => by
    rcases q with q | ⟨y, q⟩
    · exact Nat.le_of_eq q.symm
    · have := O.cab y b rfl q
      rw [show ((C.cx s1 H1).s_0.heap.objs.size) = C.L from el] at this
      exact this
  have bsz : C.base.objs.size ≤ C.L := by
    have := O.bsz
    rw [show ((C.cx s1 H1).s_0.heap.objs.size) = C.L from el] at this
    exact this
  have oml : ∀ b, b ∈ om → C.base.get? b = none := fun b q => by
    cases y : C.base.get? b with
    | none => rfl
    | some o =>
      obtain ⟨u, _, e2⟩ := (x.oms b q).1.obj
      rw [(k.e0.bs b o y).2] at e2; cases e2
  have frl : ∀ b, C.fr b → C.base.get? b = none := fun b q => by
    cases y : C.base.get? b with
    | none => rfl
    | some o => exact absurd (Nat.lt_of_lt_of_le (Heap.lt_size y) (Nat.le_trans bsz (Lf b q))) (Nat.lt_irrefl _)
  have small : ∀ b ∈ frs C.out, b < C.L := fun b q => by
    obtain ⟨_, o, e1, _⟩ := O.funs.mem q
    have := Heap.lt_size e1
    rw [show ((C.cx s1 H1).s_0.heap.objs.size) = C.L from el] at this
    exact this
  have sz : ({ s with heap := cutHeap C.L s.heap } : Shared).heap.objs.size = C.L := cut_size le
  have funs : ∀ l : List PySem.Env, (∀ b ∈ frs l, b ∈ frs C.out) → s.heap.FunFrames C.base l → (cutHeap C.L s.heap).FunFrames C.base l := by
    intro l
    induction l with
    | nil => exact fun _ _ => trivial
    | cons en r ih =>
      rintro hs ⟨hk, ⟨L1, o, hf, hn, ho, hd⟩, hr⟩
      have hL : L1 ∈ frs C.out := hs L1 (by unfold frs; rw [List.filterMap_cons, hf]; exact List.mem_cons_self)
      refine ⟨hk, ⟨L1, o, hf, hn, by rw [cut_get (small L1 hL)]; exact ho, hd⟩, ih (fun b hb => hs b ?_) hr⟩
      unfold frs
      rw [List.filterMap_cons, hf]
      exact List.mem_cons_of_mem _ hb
  refine ⟨O.mod, O.kind, O.glob, O.blt, ?_, O.inj, O.has, fun y c q1 q2 => ?_, O.hd, O.frames, O.stk, O.exf, fun b o q => ?_, ?_, fun b o _ y => (by cases y), fun b y => (by cases y), funs C.out (fun _ y => y) k.e0.funs, fun b q => ?_⟩
  · exact Nat.le_of_eq sz
  · show ({ s with heap := cutHeap C.L s.heap } : Shared).heap.objs.size ≤ c
    rw [sz]
    exact Lf c (.inr ⟨y, q2⟩)
  · have lt : b < C.L := Nat.lt_of_lt_of_le (Heap.lt_size q) bsz
    obtain ⟨e1, e2⟩ := k.e0.bs b o q
    refine ⟨by show (cutHeap C.L s.heap).get? b = some o; rw [cut_get lt]; exact e1, ?_⟩
    show cutHp C.L _ b = none
    unfold cutHp
    rw [if_pos lt]
    refine wake_low (fun y => ?_) (fun y => ?_) e2 (Nat.not_le_of_lt lt)
    · have := oml b y
      rw [show C.base.get? b = some o from q] at this; cases this
    · have := frl b y
      rw [show C.base.get? b = some o from q] at this; cases this
  · show C.base.objs.size ≤ ({ s with heap := cutHeap C.L s.heap } : Shared).heap.objs.size
    rw [sz]
    exact bsz
  · have q : b ∈ frs C.out := q
    have lt := small b q
    show cutHp C.L _ b = none
    unfold cutHp
    rw [if_pos lt]
    have e2 := k.e0.frf b q
    refine wake_low (fun y => ?_) (fun y => ?_) e2 (Nat.not_le_of_lt lt)
    · obtain ⟨u, _, e3⟩ := (x.oms b y).1.obj
      rw [e2] at e3; cases e3
    · exact Nat.lt_irrefl _ (Nat.lt_of_lt_of_le lt (Lf b y))
theorem wake_inv (G : C.Ok) (x : Zz C e z s.heap σ om lv m) (k : Wk C z s) : Inv (C.at om lv z s) [] σ (wakeH C om lv z.H s.heap) s := by
  have le : C.L ≤ s.heap.objs.size := Nat.le_of_lt x.ns.lt
  have nom : ∀ b, C.fr b → b ∉ om := fun b q y => (x.oms b y).2.1 q
  refine ⟨wake_ok G x k, rfl, k.e0.bare, un_cut le, ⟨m, x.ns, fun i y v e1 e2 e3 => x.look i y v e1 e2 e3⟩, x.cell, wake_fr (nom _ (.inl rfl)) (.inl rfl), fun y c q => wake_fr (nom _ (.inr ⟨y, q⟩)) (.inr ⟨y, q⟩), fun p hp => ?_, wake_hok x k, x.ln⟩
  exact absurd (show p ∈ ([] : List (Addr × Obj)) from hp) (by simp)
theorem wake_st (x : Zz C e z s.heap σ om lv m) (k : Wk C z s) : St C.W (z.F.to om) e [] σ (wakeH C om lv z.H s.heap) := by
  have ux : UpX (z.F.to om) (z.F.to om) z.H (wakeH C om lv z.H s.heap) := .same fun a o nx q => (wake_nx x nx q).2.2
  refine ⟨⟨List.nodup_nil, rfl, fun n a c q => by simp [Fb.to] at q, fun a q => ?_, fun a q => by simp [Fb.to] at q, fun a q y => ?_⟩, x.len, fun i d q => ?_, fun i ds q => ?_, x.apart⟩
  · by_cases h1 : a ∈ om
    · exact ⟨_, wake_om h1⟩
    · rcases to_has.mp q with q | q
      · obtain ⟨o, e1⟩ := k.tr a q
        exact ⟨o, wake_some h1 (fun y => (x.fr a y).no q) e1⟩
      · exact absurd q h1
  · have q : a ∈ om := q
    have y : a ∈ z.F.nu ++ z.F.om ++ z.F.th := y
    refine (x.oms a q).1.no ?_
    rcases List.mem_append.mp y with y | y
    · rcases List.mem_append.mp y with y | y
      · exact .inl y
      · exact .inr (.inl y)
    · exact .inr (.inr y)
  · obtain ⟨v, e1, r⟩ := x.slots i d q
    exact ⟨v, e1, r.upx ux⟩
  · obtain ⟨a, e1, e2, r⟩ := x.owns i ds q
    exact ⟨a, lv a, e1, e2, wake_om e2, r.upx ux⟩
end
end Ev

/-! Ev35: what a generator's turn leaves to its consumer. -/
namespace Ev
open PySem PySem.Spec PyProof.Rows L2
open Classical
structure Back (C : Gx) (z : Gv) (s0 : Shared) (H : Hp) (s : Shared) : Prop where
  os : s.os = s0.os
  bare : AllBare s.gens
  un : Un (frs C.out) [] z.H H s0.heap s.heap
  hok : HOk C.P C.w H s.heap
  nx : ∀ a o, NX o → z.H a = some o → H a = some o
  st : ∀ a o, z.H a = some o → ∃ o1, H a = some o1
  B : ∀ a o, C.B a → z.H a = some o → H a = some o
noncomputable def omOf (F : Fb) (H : Hp) : List Addr := F.om.filter fun a => decide (∃ vs, H a = some (.lst vs))
def lvOf (H : Hp) (a : Addr) : List V := match H a with
  | some (.lst vs) => vs
  | _ => []
theorem mem_omOf {F : Fb} {H : Hp} {a : Addr} : a ∈ omOf F H ↔ a ∈ F.om ∧ H a = some (.lst (lvOf H a)) := by
  unfold omOf
  rw [List.mem_filter, decide_eq_true_eq]
  constructor
  · rintro ⟨h, vs, e⟩
    refine ⟨h, ?_⟩
    unfold lvOf
    rw [e]
  · rintro ⟨h, e⟩
    exact ⟨h, _, e⟩
noncomputable def backH (C : Gx) (om : List Addr) (Hz : Hp) (h0 h1 : Heap) (H : Hp) : Hp := fun b =>
  if b ∈ om ∨ C.fr b then (h1.get? b).map fun o => sx o b else if Hz b = none ∧ ∃ o, h0.get? b = some o then none else H b
section
variable {C : Gx} {om : List Addr} {Hz H : Hp} {h0 h1 : Heap} {b : Addr} {o : HO}
theorem back_own {ob : Obj} (q : b ∈ om ∨ C.fr b) (e : h1.get? b = some ob) : backH C om Hz h0 h1 H b = some (sx ob b) := by unfold backH; rw [if_pos q, e]; rfl
theorem back_gone (q : ¬(b ∈ om ∨ C.fr b)) (n : Hz b = none) (e : ∃ ob, h0.get? b = some ob) : backH C om Hz h0 h1 H b = none := by unfold backH; rw [if_neg q, if_pos ⟨n, e⟩]
theorem back_else (q : ¬(b ∈ om ∨ C.fr b)) (n : ¬(Hz b = none ∧ ∃ ob, h0.get? b = some ob)) : backH C om Hz h0 h1 H b = H b := by unfold backH; rw [if_neg q, if_neg n]
end
section
variable {C : Gx} {e e1 : Env} {z : Gv} {s0 s1 : Shared} {σ σ1 : L2.St} {om : List Addr} {lv : Addr → List V} {m : Str → Option Value} {H1 : Hp} {F1 : Fb}
theorem turn_back (G : C.Ok) (x : Zz C e z s0.heap σ om lv m) (k : Wk C z s0) (I : Inv (C.at om lv z s0) [] σ1 H1 s1) (S : St C.W F1 e1 [] σ1 H1) (X : Xs (z.F.to om) F1 (wakeH C om lv z.H s0.heap) H1) :
    ∃ H om1 lv1 m1, Back C z s0 H s1 ∧ Zz C e1 ⟨H, z.F⟩ s1.heap σ1 om1 lv1 m1 ∧ ∀ d v, Rep C.W F1 H1 d v → Rep C.W (z.F.to om1) H d v := by
  have le : C.L ≤ s0.heap.objs.size := Nat.le_of_lt x.ns.lt
  have sz0 : ({ s0 with heap := cutHeap C.L s0.heap } : Shared).heap.objs.size = C.L := cut_size le
  have frN : ∀ b, C.fr b → H1 b = none := fun b q => by
    rcases q with q | ⟨y, q⟩
    · rw [q]; exact I.free
    · exact I.freeC y b q
  have frO : ∀ b, C.fr b → ∃ o, s1.heap.get? b = some o := fun b q => by
    rcases q with q | ⟨y, q⟩
    · obtain ⟨_, ⟨o, _, _, e, _⟩, _⟩ := I.loc
      rw [q]; exact ⟨o, e⟩
    · obtain ⟨v, o, e, _⟩ := I.cell y b q
      exact ⟨o, e⟩
  -- what the consumer tracks, but the generator's own
  have keep : ∀ b o, b ∉ om → ¬C.fr b → z.H b = some o → H1 b = some o ∧ b ∉ F1.om := fun b o n1 n2 q => by
    have w := wake_some (C := C) (lv := lv) (h := s0.heap) n1 n2 q
    refine ⟨X.keep b o w (by simp [Fb.to]) n1, fun y => ?_⟩
    rcases X.om b y with y | y
    · exact n1 y
    · rw [w] at y; cases y
  -- what it does not track
  have young : ∀ b o, z.H b = none → s0.heap.get? b = some o → C.L ≤ b → H1 b = some (sx o b) := fun b o n q l => by
    have n1 : b ∉ om := fun y => by
      obtain ⟨u, _, e2⟩ := (x.oms b y).1.obj
      rw [n] at e2; cases e2
    have n2 : ¬C.fr b := fun y => by
      obtain ⟨u, _, e2⟩ := (x.fr b y).obj
      rw [n] at e2; cases e2
    exact X.keep b _ (wake_new n1 n2 n l q) (by simp [Fb.to]) n1
  have low : ∀ b o, z.H b = none → s0.heap.get? b = some o → ¬C.L ≤ b → (cutHeap C.L s0.heap).get? b = some o ∧ cutHp C.L (wakeH C om lv z.H s0.heap) b = none := fun b o n q l => by
    have lt : b < C.L := Nat.lt_of_not_le l
    have n1 : b ∉ om := fun y => by
      obtain ⟨u, _, e2⟩ := (x.oms b y).1.obj
      rw [n] at e2; cases e2
    have n2 : ¬C.fr b := fun y => by
      obtain ⟨u, _, e2⟩ := (x.fr b y).obj
      rw [n] at e2; cases e2
    refine ⟨by rw [cut_get lt]; exact q, ?_⟩
    unfold cutHp
    rw [if_pos lt]
    exact wake_low n1 n2 n l
  have nx1 : ∀ b o, NX o → H1 b = some o → ¬(z.H b = none ∧ ∃ ob, s0.heap.get? b = some ob) := fun b o nx q y => by
    obtain ⟨y1, ob, y2⟩ := y
    by_cases l : C.L ≤ b
    · rw [young b ob y1 y2 l] at q; cases q; exact sx_nx nx
    · obtain ⟨c1, c2⟩ := low b ob y1 y2 l
      have := I.base.free b ob c1 c2 (by simp [Gx.cx])
      rw [q] at this; cases this
  have own1 : ∀ b, b ∈ omOf F1 H1 ∨ C.fr b → ∃ o, s1.heap.get? b = some o := fun b q => by
    rcases q with q | q
    · exact ok_at (I.hok b _ (mem_omOf.mp q).2)
    · exact frO b q
  have zown : ∀ b o, NX o → z.H b = some o → ¬(b ∈ omOf F1 H1 ∨ C.fr b) ∧ H1 b = some o := fun b o nx q => by
    obtain ⟨n1, n2, _⟩ := wake_nx x nx q
    obtain ⟨k1, k2⟩ := keep b o n1 n2 q
    exact ⟨fun y => y.elim (fun y => k2 (mem_omOf.mp y).1) n2, k1⟩
  have zown2 : ∀ b o, NX o → z.H b = some o → backH C (omOf F1 H1) z.H s0.heap s1.heap H1 b = some o := fun b o nx q => by
    obtain ⟨k1, k2⟩ := zown b o nx q
    rw [back_else k1 fun y => by rw [y.1] at q; cases q]
    exact k2
  -- of the generator's data
  have data : ∀ b o, NX o → H1 b = some o → ¬(b ∈ omOf F1 H1) → backH C (omOf F1 H1) z.H s0.heap s1.heap H1 b = some o := fun b o nx q n => by
    rw [back_else (fun y => y.elim n fun y => by rw [frN b y] at q; cases q) (nx1 b o nx q)]
    exact q
  have ux : UpX F1 (z.F.to (omOf F1 H1)) H1 (backH C (omOf F1 H1) z.H s0.heap s1.heap H1) := by
    refine ⟨fun a o nx q n => ⟨data a o nx q fun y => n (.inr (.inl (mem_omOf.mp y).1)), fun y => ?_⟩, fun i a q => ?_⟩
    · rcases y with y | y | y
      · exact n (.inl (by rw [X.nu]; exact y))
      · exact n (.inr (.inl (mem_omOf.mp y).1))
      · simp [Fb.to] at y
    · have := S.cells.len
      have l : F1.th = [] := List.length_eq_zero_iff.mp this
      rw [l] at q
      cases q
  have stz : ∀ b o, z.H b = some o → ∃ o1, backH C (omOf F1 H1) z.H s0.heap s1.heap H1 b = some o1 := fun b o q => by
    by_cases y : b ∈ omOf F1 H1 ∨ C.fr b
    · obtain ⟨ob, e⟩ := own1 b y
      exact ⟨_, back_own y e⟩
    · rw [back_else y fun y => by rw [y.1] at q; cases q]
      by_cases n1 : b ∈ om
      · obtain ⟨o1, e⟩ := X.st b _ (wake_om n1)
        exact ⟨o1, e⟩
      · exact ⟨o, (keep b o n1 (fun w => y (.inr w)) q).1⟩
  have bz : ∀ b o, C.B b → z.H b = some o → b ∉ om ∧ ¬C.fr b := fun b o q _ => ⟨fun y => (x.oms b y).1.B q, fun y => (x.fr b y).B q⟩
  have ownB : ∀ b, b ∈ omOf F1 H1 → ¬C.B b := fun b q y => by
    obtain ⟨o, e⟩ := k.B b y
    obtain ⟨n1, n2⟩ := bz b o y e
    exact (keep b o n1 n2 e).2 (mem_omOf.mp q).1
  refine ⟨_, omOf F1 H1, lvOf H1, I.loc.choose, ⟨I.os, I.bare, ⟨fun b o q n hf _ => ?_, fun b o q n hf _ => ?_, fun b o q n _ => ?_, fun b o q _ => ?_, fun b xs q => zown2 b _ (fun _ _ y => by unfold sx at y; cases y) q, fun b ob u q => zown2 b _ (fun _ _ y => by unfold sx at y; cases y) q, fun b ps q => ⟨#[], by rw [zown2 b _ (fun _ _ y => by unfold sx at y; cases y) q]; simp⟩⟩, fun b o q => ?_, zown2, stz, fun b o q y => ?_⟩,
    ⟨S.len, I.len, I.loc.choose_spec.1, fun i y v q1 q2 q3 => I.loc.choose_spec.2 i y v q1 q2 q3, I.cell, fun b q => ?_, fun b q => ?_, fun i d q => ?_, fun i ds q => ?_, S.apart⟩, fun d v r => r.upx ux⟩
  · by_cases l : C.L ≤ b
    · exact (I.hok b _ (young b o n q l)).1
    · obtain ⟨c1, c2⟩ := low b o n q l
      exact I.base.keep b o c1 c2 hf (by simp [Gx.cx])
  · by_cases l : C.L ≤ b
    · exact ⟨o.slots, (I.hok b _ (young b o n q l)).1⟩
    · obtain ⟨c1, c2⟩ := low b o n q l
      exact I.base.slot b o c1 c2 hf (by simp [Gx.cx])
  · refine back_gone (fun y => ?_) n ⟨o, q⟩
    rcases y with y | y
    · have h1 := (mem_omOf.mp y).2
      exact nx1 b _ (fun _ _ y => by unfold sx at y; cases y) h1 ⟨n, o, q⟩
    · obtain ⟨u, _, e2⟩ := (x.fr b y).obj
      rw [n] at e2; cases e2
  · cases hz : z.H b with
    | none =>
      by_cases l : C.L ≤ b
      · exact ⟨o, (I.hok b _ (young b o hz q l)).1⟩
      · obtain ⟨c1, c2⟩ := low b o hz q l
        exact I.base.there b o c1 (by simp [Gx.cx])
    | some u =>
      by_cases y : C.fr b
      · exact frO b y
      · by_cases n1 : b ∈ om
        · obtain ⟨o1, e⟩ := X.st b _ (wake_om n1)
          exact ok_at (I.hok b _ e)
        · exact ok_at (I.hok b _ (keep b u n1 y hz).1)
  · by_cases y : b ∈ omOf F1 H1 ∨ C.fr b
    · obtain ⟨ob, e⟩ := own1 b y
      rw [back_own y e] at q
      cases q
      exact sx_ok e
    · by_cases y2 : z.H b = none ∧ ∃ ob, s0.heap.get? b = some ob
      · rw [back_gone y y2.1 y2.2] at q; cases q
      · rw [back_else y y2] at q
        refine (I.hok b o q).stay (fun _ _ _ w => w) (fun d w => data d _ (fun _ _ y => by unfold sx at y; cases y) w fun t => ?_) fun d xs w => data d _ (fun _ _ y => by unfold sx at y; cases y) w fun t => ?_
        · rw [(mem_omOf.mp t).2] at w; cases w
        · rw [(mem_omOf.mp t).2] at w; cases w
  · obtain ⟨n1, n2⟩ := bz b o q y
    rw [back_else (fun t => t.elim (fun t => ownB b t q) n2) fun t => by rw [t.1] at y; cases y]
    exact (keep b o n1 n2 y).1
  · obtain ⟨ob, e⟩ := frO b q
    exact ⟨⟨ob, e, back_own (.inr q) e⟩, (x.fr b q).no, (x.fr b q).B⟩
  · obtain ⟨h1, h2⟩ := mem_omOf.mp q
    obtain ⟨ln, its, n, r, e⟩ := I.hok b _ h2
    refine ⟨⟨⟨_, e, back_own (.inl q) e⟩, fun y => ?_, ownB b q⟩, fun y => (by rw [frN b y] at h2; cases h2), ln, its, n, r, e⟩
    have := S.cells.dj2 b h1
    rw [X.nu] at this
    refine this ?_
    show b ∈ z.F.nu ++ z.F.om ++ z.F.th
    rcases y with y | y | y
    · exact List.mem_append_left _ (List.mem_append_left _ y)
    · exact List.mem_append_left _ (List.mem_append_right _ y)
    · exact List.mem_append_right _ y
  · obtain ⟨v, e2, r⟩ := S.slots i d q
    exact ⟨v, e2, r.upx ux⟩
  · obtain ⟨a, vs, e2, e3, e4, r⟩ := S.owns i ds q
    have hl : lvOf H1 a = vs := by unfold lvOf; rw [e4]
    exact ⟨a, e2, mem_omOf.mpr ⟨e3, by rw [hl]; exact e4⟩, by rw [hl]; exact r.upx ux⟩
end
end Ev

/-! Ev36: a generator's statements, turn by turn. -/
namespace Ev
open PySem PySem.Spec PyProof.Rows L2 GenW Tn
/-! ### running -/
def Gi (C : Gx) (z : Gv) (s0 : Shared) (e : Env) (s : Shared) : Prop := ∃ e0 σ0 om lv m σ H F,
  Zz C e0 z s0.heap σ0 om lv m ∧ Wk C z s0 ∧ Inv (C.at om lv z s0) [] σ H s ∧ St C.W F e [] σ H ∧ Xs (z.F.to om) F (wakeH C om lv z.H s0.heap) H
theorem Zz.gi {C : Gx} {z : Gv} {e : Env} {s : Shared} {σ : L2.St} {om : List Addr} {lv : Addr → List V} {m : Str → Option Value} (G : C.Ok) (x : Zz C e z s.heap σ om lv m) (k : Wk C z s) : Gi C z s e s :=
  ⟨e, σ, om, lv, m, σ, _, _, x, k, wake_inv G x k, wake_st x k, .refl⟩
def YT (C : Gx) (T : List D) : YldP Gv := fun n z s0 v s kap => ∃ d e H σ om lv m, T[T.length - (n + 1)]? = some d ∧ Back C z s0 H s ∧ Zz C e ⟨H, z.F⟩ s.heap σ om lv m ∧ (∃ x, RelV x v ∧ Rep C.W z.F H d x) ∧
  ∀ z1 s1, Zz C e z1 s1.heap σ om lv m → Wk C z1 s1 → kap z1 s1
def RT (C : Gx) : EndP Gv := fun n z s0 r s => r = .ok (.ret .none) ∧ n = 0 ∧ ∃ H, Back C z s0 H s
abbrev Gto (C : Gx) (T : List D) (n : Nat) (z : Gv) (s0 : Shared) (c : Code) (t : Sem PySem.Fin) (fs : List Frame) (s : Shared) : Prop :=
  To (model C.P C.w) C.A (EndT (model C.P C.w) C.A (RT C) (YT C T) n z s0) c t fs s
structure Gat (C : Gx) (c : Code) (fs : List Frame) (gd : Bool → Bool) : Prop where
  over : C.A.over c fs = C.A.deeper C.env
  split : splitAtGen fs = none
  guard : fs.any Frame.guarded = false
  gd : gd false = false
def Ext (m : MG) : Prop := ∀ e ys g e1 ys1 g1, m e ys g = .nx e1 ys1 g1 → (∃ zs, ys1 = ys ++ zs) ∧ g1.length = g.length
/-- where a run of m ends, within T -/
def Nxt (m : MG) (T : List D) (e : Env) (ys : List D) (e1 : Env) (ys1 : List D) : Prop := m e ys [] = .nx e1 ys1 [] ∧ ∃ zs, T = ys1 ++ zs
structure G2 (C : Gx) (st : Stmt) (m : MG) : Prop where
  ext : Ext m
  run : ∀ (T : List D) (n : Nat) (ys : List D) (e e1 : Env) (ys1 : List D) (z : Gv) (s0 s : Shared) (c : Code) (fs : List Frame) (K : Flow → Sem PySem.Fin) (J : Value → Sem PySem.Fin) (gd : Bool → Bool) (lv : List Value → List Value),
    Gat C c fs gd → C.Ok → n + ys.length = T.length → Nxt m T e ys e1 ys1 → (∀ n z s0 s, n + ys1.length = T.length → Gi C z s0 e1 s → Gto C T n z s0 c (K .next) fs s) → Gi C z s0 e s →
    Gto C T n z s0 c ((exec st C.env).wrap K J gd lv) fs s
structure G2s (C : Gx) (st : List Stmt) (m : MG) : Prop where
  ext : Ext m
  run : ∀ (T : List D) (n : Nat) (ys : List D) (e e1 : Env) (ys1 : List D) (z : Gv) (s0 s : Shared) (c : Code) (fs : List Frame) (K : Flow → Sem PySem.Fin) (J : Value → Sem PySem.Fin) (gd : Bool → Bool) (lv : List Value → List Value),
    Gat C c fs gd → C.Ok → n + ys.length = T.length → Nxt m T e ys e1 ys1 → (∀ n z s0 s, n + ys1.length = T.length → Gi C z s0 e1 s → Gto C T n z s0 c (K .next) fs s) → Gi C z s0 e s →
    Gto C T n z s0 c ((execs st C.env).wrap K J gd lv) fs s
section
variable {C : Gx} {st : Stmt} {rest body : List Stmt} {m m2 : MG} {s1 : MS} {me : M D} {tc : M Bool} {e t : Expr} {pos yp : Pos}
theorem ext_plain : Ext (plG (sameS s1)) := fun e ys g e1 ys1 g1 h => by
  unfold plG sameS at h
  cases q : s1 e g <;> simp only [q] at h <;> try (cases h)
  rename_i a b
  by_cases l : b.length = g.length
  · simp only [if_pos l] at h
    cases h
    exact ⟨⟨[], by simp⟩, l⟩
  · simp only [if_neg l] at h
    cases h
theorem g2_plain (h : ∀ s H, PS (C.cx s H).nox st (tMS C.W (fun _ _ _ => False) s1)) : G2 C st (plG (sameS s1)) := by
  refine ⟨ext_plain, fun T n ys e e1 ys1 z s0 s c fs K J gd lv g G hn hm k hi => ?_⟩
  obtain ⟨e0, σ0, om, lv0, m0, σ, H, F, Z, w, I, S, X⟩ := hi
  have hq : s1 e [] = .nx e1 [] ∧ ys1 = ys := by
    have := hm.1
    unfold plG sameS at this
    cases q : s1 e [] <;> simp only [q] at this <;> try (cases this)
    rename_i a b
    by_cases l : b.length = ([] : List Cell).length
    · simp only [if_pos l] at this
      cases this
      exact ⟨rfl, rfl⟩
    · simp only [if_neg l] at this
      cases this
  obtain ⟨q, rfl⟩ := hq
  refine to_wrap ?_
  rw [g.over]
  refine wpAny_mono ((h _ _).run [] s σ H { nx := fun σ1 H1 => ∃ F1, Xs F F1 H H1 ∧ St C.W F1 e1 [] σ1 H1, rt := fun _ _ => False } I ⟨F, e, [], S, ?_⟩) (fun f s2 hs => ?_) fun _ _ y => y.elim
  · rw [q]
    exact fun F1 σ1 H1 x y => ⟨F1, x, y⟩
  · cases f with
    | next =>
      obtain ⟨σ1, H1, I1, F1, X1, S1⟩ := hs
      exact k n z s0 s2 hn ⟨e0, σ0, om, lv0, m0, σ1, H1, F1, Z, w, I1, S1, X.trans X1⟩
    | brk => obtain ⟨_, _, _, y⟩ := hs; exact y.elim
    | cont => obtain ⟨_, _, _, y⟩ := hs; exact y.elim
    | ret u => obtain ⟨_, _, _, _, _, y⟩ := hs; exact y.elim
theorem ext_yield : Ext (yldG (sameM me)) := fun e ys g e1 ys1 g1 h => by
  unfold yldG sameM at h
  cases q : me e g <;> simp only [q] at h <;> try (cases h)
  rename_i d b
  by_cases l : b.length = g.length
  · simp only [if_pos l] at h
    split at h
    · cases h
      exact ⟨⟨[d], rfl⟩, l⟩
    · cases h
  · simp only [if_neg l] at h
    cases h
theorem g2_yield (h : ∀ s H, PE (C.cx s H).nox e (tM C.W (fun _ _ _ => False) me)) (hco : C.env.scope.isCoroutine = false := by rfl) (hi : interactive C.env = false := by rfl) : G2 C (.Expr (.Yield (some e) yp) pos) (yldG (sameM me)) := by
  refine ⟨ext_yield, fun T n ys en e1 ys1 z s0 s c fs K J gd lv g G hn hm k hgi => ?_⟩
  obtain ⟨e0, σ0, om, lv0, m0, σ, H, F, Z, w, I, S, X⟩ := hgi
  obtain ⟨d, q, rfl, rfl⟩ : ∃ d, me en [] = .ok d [] ∧ e1 = en ∧ ys1 = ys ++ [d] := by
    have := hm.1
    unfold yldG sameM at this
    cases q : me en [] <;> simp only [q] at this <;> try (cases this)
    rename_i a b
    by_cases l : b.length = ([] : List Cell).length
    · simp only [if_pos l] at this
      split at this
      · cases this
        exact ⟨a, rfl, rfl, rfl⟩
      · cases this
    · simp only [if_neg l] at this
      cases this
  obtain ⟨zs, hT⟩ := hm.2
  have hl : T.length = ys.length + 1 + zs.length := by rw [hT]; simp only [List.length_append, List.length_singleton]
  obtain ⟨n, rfl⟩ : ∃ j, n = j + 1 := ⟨n - 1, by omega⟩
  refine to_Yield g.split g.gd g.guard ?_ hco hi
  rw [g.over]
  refine wpAny_mono ((h _ _).run [] s σ H (fun x H1 => ∃ F1, Xe F F1 H H1 ∧ Cells C.W F1 H1 [] ∧ Rep C.W F1 H1 d x) I ⟨F, e1, [], S, ?_⟩) (fun v s2 hv => ?_) fun _ _ y => y.elim
  · rw [q]
    exact fun F1 H1 x c v r => ⟨F1, x, c, r⟩
  obtain ⟨x, H1, I1, rv, F1, X1, c1, r1⟩ := hv
  intro l kk p hk
  obtain ⟨H2, om2, lv2, m2, B, Z2, rr⟩ := turn_back G Z w I1 (S.step X1 c1) (X.trans X1.xs)
  refine ⟨?_, d, e1, H2, σ, om2, lv2, m2, ?_, B, Z2, ⟨x, rv, ?_⟩, fun z1 s3 Z3 w3 => hk _ s3 (k n z1 s3 s3 ?_ (Z3.gi G w3))⟩
  · show ((!false) && !(fs.any Frame.guarded)) = true
    rw [g.guard]
    rfl
  · rw [hT, show (ys ++ [d] ++ zs).length - (n + 1) = ys.length by rw [← hT]; omega, List.append_assoc, List.getElem?_append_right (Nat.le_refl _), Nat.sub_self]
    rfl
  · exact (rr d x r1).upx ⟨fun a o _ y ny => ⟨y, fun t => ny (to_has.mpr (.inl t))⟩, fun i a y => by simp [Fb.to] at y⟩
  · rw [List.length_append, List.length_singleton]
    omega
theorem g2s_nil : G2s C [] skipG := ⟨fun e ys g e1 ys1 g1 h => by cases h; exact ⟨⟨[], by simp⟩, rfl⟩, fun T n ys e e1 ys1 z s0 s c fs K J gd lv g G hn hm k hi => by
  cases hm.1
  exact to_nil (k n z s0 s hn hi)⟩
theorem ext_seq (h1 : Ext m) (h2 : Ext m2) : Ext (seqG m m2) := fun e ys g e1 ys1 g1 h => by
  unfold seqG at h
  cases q : m e ys g with
  | bad => rw [q] at h; cases h
  | nx e2 ys2 g2 =>
    rw [q] at h
    obtain ⟨⟨za, rfl⟩, l1⟩ := h1 _ _ _ _ _ _ q
    obtain ⟨⟨zb, rfl⟩, l2⟩ := h2 _ _ _ _ _ _ h
    exact ⟨⟨za ++ zb, by simp⟩, l2.trans l1⟩
theorem nil_of {g : List Cell} (h : g.length = ([] : List Cell).length) : g = [] := List.length_eq_zero_iff.mp h
theorem g2s_cons (a : G2 C st m) (b : G2s C rest m2) : G2s C (st :: rest) (seqG m m2) := by
  refine ⟨ext_seq a.ext b.ext, fun T n ys e e1 ys1 z s0 s c fs K J gd lv g G hn hm k hi => to_cons ?_⟩
  obtain ⟨h1, zs, hT⟩ := hm
  unfold seqG at h1
  cases q : m e ys [] with
  | bad => rw [q] at h1; cases h1
  | nx e2 ys2 g2 =>
    rw [q] at h1
    obtain ⟨_, l1⟩ := a.ext _ _ _ _ _ _ q
    obtain rfl := nil_of l1
    obtain ⟨⟨zb, hb⟩, _⟩ := b.ext _ _ _ _ _ _ h1
    refine a.run T n ys e e2 ys2 z s0 s c fs _ J gd lv g G hn ⟨q, zb ++ zs, by rw [hT, hb, List.append_assoc]⟩ (fun n2 z2 s02 s2 hn2 hi2 => ?_) hi
    exact b.run T n2 ys2 e2 e1 ys1 z2 s02 s2 c fs K J gd lv g G hn2 ⟨h1, zs, hT⟩ k hi2
theorem ext_wh (h : Ext m) : ∀ n, Ext (whG (sameB tc) m n)
  | 0 => fun e ys g e1 ys1 g1 q => by cases q
  | n + 1 => fun e ys g e1 ys1 g1 q => by
    unfold whG sameB sameM at q
    cases q1 : tc e g <;> simp only [q1] at q <;> try (cases q)
    rename_i b gb
    by_cases l : gb.length = g.length
    · simp only [if_pos l] at q
      cases b with
      | false =>
        simp only [Bool.false_eq_true, if_false] at q
        cases q
        exact ⟨⟨[], by simp⟩, l⟩
      | true =>
        simp only [if_true] at q
        cases q2 : m e ys gb with
        | bad => simp only [q2] at q; cases q
        | nx e2 ys2 g2 =>
          simp only [q2] at q
          obtain ⟨⟨za, rfl⟩, l1⟩ := h _ _ _ _ _ _ q2
          obtain ⟨⟨zb, rfl⟩, l2⟩ := ext_wh h n _ _ _ _ _ _ q
          exact ⟨⟨za ++ zb, by simp⟩, l2.trans (l1.trans l)⟩
    · simp only [if_neg l] at q
      cases q
theorem gat_loop {c c1 : Code} {fs : List Frame} {gd : Bool → Bool} {k : Result → Sem PySem.Fin} {l kp : List Value} {p : Pos} (g : Gat C c fs gd) (hw : c1.weight = 0) (hu : c1.cUnits = 0) : Gat C c1 (.ret k none (gd false) l c p kp :: fs) id := by
  refine ⟨(over_loop hw hu).trans g.over, ?_, ?_, rfl⟩
  · show (splitAtGen fs).map _ = none
    rw [g.split]
    rfl
  · show (gd false || fs.any Frame.guarded) = false
    rw [g.gd, g.guard]
    rfl
theorem g2_while (N : Nat) (hc : ∀ s H, PT (C.cx s H).nox t (tB C.W (fun _ _ _ => False) tc)) (hb : G2s C body m) : G2 C (.While t body [] pos) (whG (sameB tc) m N) := by
  refine ⟨ext_wh hb.ext N, fun T n ys e e1 ys1 z s0 s c fs K J gd lv g G hn hm k hi => to_While fun p => ?_⟩
  generalize hk : (fun r => ((match r with | .ok f => (.pure f : Sem Flow) | .error e => .raise e).onRaise fun (x : Value) => do
        if (← field x 1) == Value.none then unsupported "frame.own-activation:exception-without-traceback"
        setFlight x C.env.frame).wrap K J gd lv : Result → Sem PySem.Fin) = kk
  have leaf : ∀ (n : Nat) (z : Gv) (s0 s : Shared), n + ys1.length = T.length → Gi C z s0 e1 s → Gto C T n z s0 (.whileLoop t body [] C.env) (.pure (.done .next)) (.ret kk none (gd false) (lv []) c p [] :: fs) s := fun n z s0 s hn hi =>
    to_leaf (.ok .next) (by rw [← hk]; exact k n z s0 s hn hi)
  have gl : Gat C (.whileLoop t body [] C.env) (.ret kk none (gd false) (lv []) c p [] :: fs) id := gat_loop g rfl rfl
  clear hk k g
  induction N generalizing n ys e z s0 s with
  | zero => cases hm.1
  | succ N ih =>
    obtain ⟨h1, zs, hT⟩ := hm
    obtain ⟨e0, σ0, om, lv0, m0, σ, H, F, Z, w, I, S, X⟩ := hi
    unfold whG sameB sameM at h1
    cases q : tc e [] <;> simp only [q] at h1 <;> try (cases h1)
    rename_i b gb
    by_cases l : gb.length = ([] : List Cell).length
    · simp only [if_pos l] at h1
      obtain rfl := nil_of l
      refine to_while ?_
      rw [gl.over]
      refine wpAny_mono ((hc _ _).run [] s σ H (fun b1 H1 => ∃ F1, b1 = b ∧ Xe F F1 H H1 ∧ Cells C.W F1 H1 []) I ⟨F, e, [], S, ?_⟩) (fun b1 s2 hv => ?_) fun _ _ y => y.elim
      · rw [q]
        exact fun F1 H1 x c => ⟨F1, rfl, x, c⟩
      obtain ⟨H1, I1, F1, rfl, X1, c1⟩ := hv
      have hi2 : Gi C z s0 e s2 := ⟨e0, σ0, om, lv0, m0, σ, H1, F1, Z, w, I1, S.step X1 c1, X.trans X1.xs⟩
      cases b1 with
      | false =>
        simp only [Bool.false_eq_true, if_false] at h1 ⊢
        cases h1
        exact leaf n z s0 s2 hn hi2
      | true =>
        simp only [if_true] at h1 ⊢
        cases q2 : m e ys [] with
        | bad => simp only [q2] at h1; cases h1
        | nx e2 ys2 g2 =>
          simp only [q2] at h1
          obtain ⟨_, l1⟩ := hb.ext _ _ _ _ _ _ q2
          obtain rfl := nil_of l1
          obtain ⟨⟨zb, hz⟩, _⟩ := ext_wh hb.ext N _ _ _ _ _ _ h1
          refine hb.run T n ys e e2 ys2 z s0 s2 _ _ _ _ id id gl G hn ⟨q2, zb ++ zs, by rw [hT, hz, List.append_assoc]⟩ (fun n2 z2 s02 s3 hn2 hi3 => ?_) hi2
          exact to_again rfl (ih n2 ys2 e2 z2 s02 s3 hn2 ⟨h1, zs, hT⟩ hi3)
    · simp only [if_neg l] at h1
      cases h1
end
end Ev

/-! Ev37: a generator that a call has made; its next item. -/
namespace Ev
open PySem PySem.Spec PyProof.Rows L2 GenW Tn
open Classical
mutual
theorem Rep.noth {W : Wd} {F F' : Fb} {H : Hp} (h : ∀ a, ¬F.has a → ¬F'.has a) : ∀ {d : D} {v : V}, noG d = true → Rep W F H d v → Rep W F' H d v
  | .non, v, _, r => r
  | .bl _, v, _, r => r
  | .int _, v, _, r => r
  | .str _, v, _, r => r
  | .cl _, v, _, r => r
  | .g _, v, n, r => by cases n
  | .tup ds, v, n, r => by
    obtain ⟨a, vs, e, t, r⟩ := r
    unfold noG at n
    exact ⟨a, vs, e, t.elim (fun t => .inl ⟨t.1, h a t.2⟩) .inr, RepL.noth h n r⟩
  | .lst ds, v, n, r => by
    obtain ⟨a, vs, e, t, k, r⟩ := r
    unfold noG at n
    exact ⟨a, vs, e, t, h a k, RepL.noth h n r⟩
  | .ob c d, v, n, r => by
    obtain ⟨a, dx, x, e, t, k, r⟩ := r
    unfold noG at n
    exact ⟨a, dx, x, e, t, h a k, Rep.noth h n r⟩
  | .dct kvs, v, n, r => by
    obtain ⟨a, e, t, k⟩ := r
    exact ⟨a, e, t, h a k⟩
  | .exc c d, v, n, r => by
    obtain ⟨a, dx, x, e, t, k, t2, k2, r⟩ := r
    unfold noG at n
    exact ⟨a, dx, x, e, t, h a k, t2, h dx k2, Rep.noth h n r⟩
  | .da ds, v, n, r => by
    obtain ⟨a, vs, e, t, k, r⟩ := r
    unfold noG at n
    exact ⟨a, vs, e, t, h a k, RepL.noth h n r⟩
  | .sc ns, v, n, r => by
    obtain ⟨a, e, t⟩ := r
    exact ⟨a, e, t.elim (fun t => .inl ⟨t.1, h a t.2⟩) .inr⟩
theorem RepL.noth {W : Wd} {F F' : Fb} {H : Hp} (h : ∀ a, ¬F.has a → ¬F'.has a) : ∀ {ds : List D} {vs : List V}, noGs ds = true → RepL W F H ds vs → RepL W F' H ds vs
  | [], vs, _, r => r
  | d :: ds, vs, n, r => by
    obtain ⟨v, q, e, h1, h2⟩ := r
    unfold noGs at n
    rw [Bool.and_eq_true] at n
    exact ⟨v, q, e, Rep.noth h n.1 h1, RepL.noth h n.2 h2⟩
end
/-- a generator at a that has handed out j items of T -/
def Rest (C : Gx) (T : List D) (a j : Nat) (z : Gv) (s : Shared) : Prop := ∃ e σ om lv m g gs oa, Zz C e z s.heap σ om lv m ∧ z.H a = some (sx oa a) ∧ ¬z.F.has a ∧ C.B a ∧ (∀ h : Heap, h.get? a = some oa → h.IsGen a g) ∧ s.heap.get? a = some oa ∧ s.gens[g]? = some gs ∧ j ≤ T.length ∧
  (0 < j → Slp.susp gs = true) ∧ ∀ z1 s1, Zz C e z1 s1.heap σ om lv m → Wk C z1 s1 → Goes (model C.P C.w) C.A (EndT (model C.P C.w) C.A (RT C) (YT C T) (T.length - j) z1 s1) gs s1
/-- the consumer goes on, the generator sleeps -/
theorem Rest.on {C : Gx} {T : List D} {a j : Nat} {z z1 : Gv} {s s1 : Shared} {P : Program} {w : World} (x : Rest C T a j z s) (u : Up z.F z1.F z.H z1.H) (ok : HOk P w z1.H s1.heap) (hg : ∀ (g : Nat) (gs : GenState), s.gens[g]? = some gs → (0 < j → Slp.susp gs = true) → s1.gens[g]? = some gs) : Rest C T a j z1 s1 := by
  obtain ⟨e, σ, om, lv, m, g, gs, oa, Z, h1, h2, h3, h4, h5, h6, h7, h8, h9⟩ := x
  obtain ⟨k1, k2⟩ := u.keep a _ h1 h2
  exact ⟨e, σ, om, lv, m, g, gs, oa, Z.on u ok, k1, k2, h3, h4, (ok a _ k1).1, hg g gs h6 h8, h7, h8, h9⟩
section
variable {P : Program} {w : World} {W : Wd} {mg : Str → Option Value} {base : Heap} {N : List Str} {qual : Str} {sc : Scope} {f : Addr} {cdv : Value} {A : Around} {out : List PySem.Env} {L : Nat} {B : Addr → Prop}
/-- the next item, or the end -/
theorem rest_next {T : List D} {a j : Nat} {z : Gv} {s : Shared} {Q : Option Value → Shared → Prop} {E : Value → Shared → Prop} (G : (Gx.mk P w W mg base N qual sc f cdv A.in1 out L B).Ok) (hh : A.handled = none) (hd : A.depth < recursionLimit) (hl : s.heap.NoLimit)
    (x : Rest ⟨P, w, W, mg, base, N, qual, sc, f, cdv, A.in1, out, L, B⟩ T a j z s) (k : Wk ⟨P, w, W, mg, base, N, qual, sc, f, cdv, A.in1, out, L, B⟩ z s)
    (item : ∀ d y v H s1 s0, T[j]? = some d → RelV y v → Rep W z.F H d y → s0.heap = s.heap → s0.os = s.os → Back ⟨P, w, W, mg, base, N, qual, sc, f, cdv, A.in1, out, L, B⟩ z s0 H s1 → Rest ⟨P, w, W, mg, base, N, qual, sc, f, cdv, A.in1, out, L, B⟩ T a (j + 1) ⟨H, z.F⟩ s1 → Q (some v) s1)
    (done : ∀ H s1 s0, j = T.length → s0.heap = s.heap → s0.os = s.os → Back ⟨P, w, W, mg, base, N, qual, sc, f, cdv, A.in1, out, L, B⟩ z s0 H s1 → Q none s1) : wpAny (model P w) A (pyNext (.ref a)) Q E s := by
  obtain ⟨e, σ, om, lv, m, g, gs, oa, Z, h1, h2, h3, h4, h5, h6, h7, h8, h9⟩ := x
  have hgl : g < s.gens.size := (Array.getElem?_eq_some_iff.mp h6).1
  have br : AllBare (s.setGen g .running).gens := allBare_setGen k.e0.bare rfl
  have k1 : Wk ⟨P, w, W, mg, base, N, qual, sc, f, cdv, A.in1, out, L, B⟩ z (s.setGen g .running) := ⟨⟨k.e0.frames, k.e0.mod, k.e0.bs, k.e0.bsz, k.e0.funs, k.e0.frf, k.e0.hok, br⟩, k.tr, k.B⟩
  refine wpAny_gsz (n := g + 1) hgl (wp_next (n := T.length - j) (z := z) hh hl hd (h4 _ h5) h6 (h9 z _ Z k1) (fun n z s0 r s1 y => y.1) (fun v s1 gs1 y => ?_) fun s1 y h' hk => ?_)
  · intro hsz
    cases hn : T.length - j with
    | zero => rw [hn] at y; exact y.elim
    | succ i =>
      rw [hn] at y
      obtain ⟨hb, hs, d, e1, H, σ1, om1, lv1, m1, hT, Bk, Z1, ⟨y1, rv, r1⟩, go⟩ := y
      have sz1 : g < s1.gens.size := by
        have q := setGen_size s1 g gs1
        have hsz' : g + 1 ≤ (s1.setGen g gs1).gens.size := hsz
        omega
      have ej : T.length - (i + 1) = j := by omega
      rw [ej] at hT
      have ka : H a = some (sx oa a) := Bk.B a _ h3 h1
      have jl : j < T.length := by omega
      refine item d y1 v H (s1.setGen g gs1) (s.setGen g .running) hT rv r1 rfl rfl ⟨Bk.os, allBare_setGen Bk.bare hb, Bk.un, Bk.hok, Bk.nx, Bk.st, Bk.B⟩ ⟨e1, σ1, om1, lv1, m1, g, gs1, oa, Z1, ka, h2, h3, h4, (Bk.hok a _ ka).1, setGen_at sz1, jl, fun _ => hs, fun z2 s2 Z2 k2 => ?_⟩
      have ei : T.length - (j + 1) = i := by omega
      rw [ei]
      exact go z2 s2 Z2 k2
  · intro _
    obtain ⟨_, n0, H, Bk⟩ := y
    have un : Un (frs out) [] z.H H (s.setGen g .running).heap h' := Bk.un.trans (Un.kept hk)
    exact done H _ (s.setGen g .running) (by omega) rfl rfl ⟨Bk.os, allBare_setGen (s := s1) Bk.bare rfl, un, Bk.hok.kept hk, Bk.nx, Bk.st, Bk.B⟩
end
/-- what a call of a generator def makes -/
def Born (P : Program) (w : World) (W : Wd) (mg : Str → Option Value) (base : Heap) (k : Nat) (out : List PySem.Env) (H : Hp) (F : Fb) (s : Shared) (T : List D) (u : Value) (s1 : Shared) : Prop :=
  ∃ (a : Nat) (H1 : Hp) (N : List Str) (qual : Str) (sc : Scope) (f : Addr) (cdv : Value) (L : Nat) (B : Addr → Prop), u = .ref a ∧ s1.os = s.os ∧ AllBare s1.gens ∧ Un (frs out) [] H H1 s.heap s1.heap ∧ HOk P w H1 s1.heap ∧ (∀ b o, H b = some o → H1 b = some o ∧ B b) ∧ (∀ b, B b → ∃ o, H1 b = some o) ∧
    ∀ A : Around, Room k A → A.frames = some out → (Gx.mk P w W mg base N qual sc f cdv A out L B).Ok ∧ Rest ⟨P, w, W, mg, base, N, qual, sc, f, cdv, A, out, L, B⟩ T a 0 ⟨H1, F⟩ s1
structure GNew (P : Program) (w : World) (W : Wd) (mg : Str → Option Value) (base : Heap) (k n : Nat) (f : Addr) (fd : FuncData) (ps : List Str) (fs : List D → List Cell → R (List D)) : Prop where
  len : ps.length = n
  run : ∀ (A : Around) (out : List PySem.Env) (s : Shared) (H : Hp) (F : Fb) (args : Args) (us : List Value) (vs : List V) (ds T : List D), Room k A → Env0 P w W.K mg base A out s H → (∀ a, F.has a → ∃ o, H a = some o) → BindsTo s fd args (ps.zip us) → Vals vs us → RepL W F H ds vs → ds.length = n → noGs ds = true → fs ds [] = .ok T [] →
    codeAny (model P w) A (.call (.ref f) args) (fun r s1 => match r with | .ok (.ret u) => Born P w W mg base k out H F s T u s1 | _ => False) s
/-- THE RULE: a generator def by its body -/
theorem gnew_of {P : Program} {w : World} {W : Wd} {mg : Str → Option Value} {base : Heap} {k n nn : Nat} {x qual : Str} {st : Stmt} {f : Addr} {fd : FuncData} {N ps : List Str} {body : MG} (Fn : Fun W.K x qual st f fd) (S : GScope N ps (defScope st)) (hn : ps.length = n) (hm : N.length = nn)
    (h : ∀ (cdv : Value) (A : Around) (out : List PySem.Env) (L : Nat) (B : Addr → Prop), Room k (A.deeper (envOfC qual (defScope st) L f cdv)) → G2s ⟨P, w, W, mg, base, N, qual, defScope st, f, cdv, A, out, L, B⟩ (defBody st) body) :
    GNew P w W mg base (k + 1) n f fd ps (genF n nn body) := by
  subst hn hm
  obtain ⟨oc, od, kV, doc, pm, an, cdv, ct, osl, rfl, lk, hcd⟩ := Fn.ex
  refine ⟨rfl, fun A out s H F args us vs ds T hr e0 tr bt rv rl hl ng hT => ?_⟩
  have hlv : vs.length = ps.length := by rw [← rl.length]; exact hl
  have KX : W.K.In s.heap := e0.mod.kin.keeps fun b o e => (e0.bs b o e).1
  have lim : s.heap.NoLimit := e0.mod.nolimit.keeps fun b o e => (e0.bs b o e).1
  have kinds : ∀ y ∈ ps.zip us, (defScope st).names.lookup y.1 = some .local ∨ ((defScope st).names.lookup y.1 = some .cell ∧ ((cellsFrom (s.heap.objs.size + 1) (defScope st).names []).lookup y.1).isSome = true) := fun ⟨n, v⟩ hy => by
    rcases S.par n (List.of_mem_zip hy).1 with q | q
    · exact .inl q
    · exact .inr ⟨q, PySem.W.cellsFrom_some _ _ _ (.inl q)⟩
  refine codeAny_call_generator hr.depth (KX _ _ lk) rfl S.co S.gen rfl (PySem.W.codeRec_of KX hcd) (bt _ _ _ _ ?_)
  refine wpAny_newFunctionEnv_cells S.kind kinds fun env he s1 x => ?_
  subst he
  refine ⟨lim.keeps x.toInCall.keep, ?_⟩
  obtain ⟨e1, hq⟩ : ∃ e1, body (ds.map .v ++ List.replicate (N.length - ps.length) .no) [] [] = .nx e1 T [] := by
    unfold genF at hT
    rw [if_pos hl] at hT
    cases q : body (ds.map .v ++ List.replicate (N.length - ps.length) .no) [] [] with
    | bad => rw [q] at hT; cases hT
    | nx e1 ys g1 =>
      rw [q] at hT
      simp only at hT
      split at hT
      · cases hT; exact ⟨e1, rfl⟩
      · cases hT
  obtain ⟨h1, tk, es1, hk1⟩ := x.done
  have kp1 : ∀ b o, s.heap.get? b = some o → s1.heap.get? b = some o := x.toInCall.keep
  have I1 := inv_startG (E := fun _ _ _ => False) (w := w) (P := P) (base := base) (mg := mg) (f := f) (qual := qual) (cd := cdv) S hr.hd e0 hlv rv x
  have lt1 : s.heap.objs.size < s1.heap.objs.size := x.toInCall.ns.lt
  -- the generator's object
  have main : ∀ (go : Obj) (nm qn : Value) (tk2 : Nat), go.cls = .type "generator" → go.data = .fields #[.int s1.gens.size 0, nm, qn] → go.slots = #[] → (∀ h : Heap, (h.push go).get? h.objs.size = some go) →
      Born P w W mg base (k + 1) out H F s T (.ref s1.heap.objs.size) { s1 with gens := s1.gens.push (.fresh (.func (defBody st) (envOfC qual (defScope st) s.heap.objs.size f cdv))), toks := tk2, heap := s1.heap.push go } := by
    intro go nm qn tk2 g1 g2 g3 gp
    generalize hL : s.heap.objs.size = L at *
    generalize ha : s1.heap.objs.size = a at *
    have hfr : ∀ b, (b = L ∨ ∃ y, (envOfC qual (defScope st) L f cdv).cells.lookup y = some b) → H b = none ∧ b < a ∧ L ≤ b ∧ ∃ o, s1.heap.get? b = some o := fun b q => by
      rcases q with q | ⟨y, q⟩
      · subst q
        obtain ⟨m, ⟨o, es, ep, e, r⟩, _⟩ := I1.loc
        have e : s1.heap.get? (envOfC qual (defScope st) s.heap.objs.size f cdv).locals = some o := e
        have i0 : H (envOfC qual (defScope st) s.heap.objs.size f cdv).locals = none := I1.free
        rw [hL] at e i0
        exact ⟨i0, lt1, Nat.le_refl _, o, e⟩
      · obtain ⟨v, o, e, _⟩ := I1.cell y b (by rw [← hL] at q; exact q)
        refine ⟨I1.freeC y b (by rw [← hL] at q; exact q), by rw [← ha]; exact Heap.lt_size e, ?_, o, e⟩
        have := I1.ok.cab y b rfl (by rw [← hL] at q; exact q)
        rw [← hL]; exact this
    have haH : H a = none := by rw [← ha]; exact I1.hok.fresh (Nat.le_refl _)
    let H1 : Hp := fun b => if (b = L ∨ ∃ y, (envOfC qual (defScope st) L f cdv).cells.lookup y = some b) ∨ b = a then ((s1.heap.push go).get? b).map fun o => sx o b else H b
    have own : ∀ b o, ((b = L ∨ ∃ y, (envOfC qual (defScope st) L f cdv).cells.lookup y = some b) ∨ b = a) → (s1.heap.push go).get? b = some o → H1 b = some (sx o b) := fun b o q e => by
      show (if _ then _ else _) = _
      rw [if_pos q, e]; rfl
    have other : ∀ b, ¬((b = L ∨ ∃ y, (envOfC qual (defScope st) L f cdv).cells.lookup y = some b) ∨ b = a) → H1 b = H b := fun b q => by
      show (if _ then _ else _) = _
      rw [if_neg q]
    have up : ∀ b o, H b = some o → H1 b = some o := fun b o e => by
      rw [other b ?_]
      · exact e
      · rintro (q | q)
        · rw [(hfr b q).1] at e; cases e
        · rw [q, haH] at e; cases e
    have kp2 : ∀ b o, s1.heap.get? b = some o → (s1.heap.push go).get? b = some o := fun b o e => Heap.get?_push_of_some _ e
    have kp : ∀ b o, s.heap.get? b = some o → (s1.heap.push go).get? b = some o := fun b o e => kp2 b o (kp1 b o e)
    have gpa : (s1.heap.push go).get? a = some go := by rw [← ha]; exact gp _
    have hok : HOk P w H1 (s1.heap.push go) := fun b o e => by
      by_cases q : (b = L ∨ ∃ y, (envOfC qual (defScope st) L f cdv).cells.lookup y = some b) ∨ b = a
      · have ⟨o1, e1⟩ : ∃ o1, (s1.heap.push go).get? b = some o1 := by
          rcases q with q | q
          · obtain ⟨o1, e1⟩ := (hfr b q).2.2.2
            exact ⟨o1, kp2 b o1 e1⟩
          · rw [q]; exact ⟨go, gpa⟩
        rw [own b o1 q e1] at e
        cases e
        exact sx_ok e1
      · rw [other b q] at e
        exact (e0.hok b o e).stay (fun c u _ y => kp c u y) (fun c y => up c _ y) fun c xs y => up c _ y
    have un : Un (frs out) [] H H1 s.heap (s1.heap.push go) := by
      refine ⟨fun b o e _ _ _ => kp b o e, fun b o e _ _ _ => ⟨o.slots, kp b o e⟩, fun b o e nn _ => ?_, fun b o e _ => ⟨o, kp b o e⟩, fun b xs e => up b _ e, fun b ob u e => up b _ e, fun b ps e => ⟨#[], by rw [up b _ e]; simp⟩⟩
      rw [other b ?_]
      · exact nn
      · have lt : b < L := by rw [← hL]; exact Heap.lt_size e
        rintro (q | q)
        · exact Nat.lt_irrefl _ (Nat.lt_of_lt_of_le lt (hfr b q).2.2.1)
        · rw [q] at lt
          exact Nat.lt_irrefl _ (Nat.lt_trans lt lt1)
    have nF : ∀ b, H b = none → ¬F.has b := fun b e q => by
      obtain ⟨o, e1⟩ := tr b q
      rw [e] at e1; cases e1
    -- asleep at its start
    have c0 : Cells W (F.to []) H [] := ⟨List.nodup_nil, rfl, fun n a c q => by simp [Fb.to] at q, fun a q => tr a ((to_has.mp q).elim id fun y => by simp at y), fun a q => by simp [Fb.to] at q, fun a q => by simp [Fb.to] at q⟩
    have S0 := st_start (N := N) c0 (rl.noth (F' := F.to []) (fun a n y => n ((to_has.mp y).elim id fun y => by simp at y)) ng)
    rw [hl] at S0
    have ux : UpX (F.to []) (F.to []) H H1 := .same fun b o _ e => up b o e
    have Z : ∀ A : Around, Zz ⟨P, w, W, mg, base, N, qual, defScope st, f, cdv, A, out, L, fun b => (∃ o, H b = some o) ∨ b = a⟩ (ds.map .v ++ List.replicate (N.length - ps.length) .no) ⟨H1, F⟩ (s1.heap.push go) (L2.start N vs) [] (fun _ => []) I1.loc.choose := fun A => by
      have l1 := I1.loc.choose_spec
      refine ⟨S0.len, I1.len, ?_, fun i y v q1 q2 q3 => ?_, fun y c q => ?_, fun b q => ?_, fun b q => by simp at q, fun i d q => ?_, fun i fs q => ?_, fun i j l1 l2 b ne q1 q2 q3 => ?_⟩
      · have q := l1.1
        have q : s1.heap.Ns (envOfC qual (defScope st) s.heap.objs.size f cdv).locals _ := q
        rw [hL] at q
        exact q.keeps kp2
      · obtain ⟨u, r, lo⟩ := l1.2 i y v q1 q2 q3
        refine ⟨u, r, ?_⟩
        have lo : L2.Look (envOfC qual (defScope st) s.heap.objs.size f cdv) s1.heap _ y u := lo
        rw [hL] at lo
        rcases lo with lo | ⟨k1, c, e, q⟩
        · exact .inl lo
        · exact .inr ⟨k1, c, e, q.keeps kp2⟩
      · have q : (envOfC qual (defScope st) L f cdv).cells.lookup y = some c := q
        obtain ⟨v, e⟩ := I1.cell y c (by rw [← hL] at q; exact q)
        exact ⟨v, e.keeps kp2⟩
      · have q : b = L ∨ ∃ y, (envOfC qual (defScope st) L f cdv).cells.lookup y = some b := q
        obtain ⟨h2, h3, _, o, e⟩ := hfr b q
        exact ⟨⟨o, kp2 b o e, own b o (.inl q) (kp2 b o e)⟩, nF b h2, fun y => y.elim (fun ⟨o, y⟩ => by rw [h2] at y; cases y) fun y => Nat.lt_irrefl _ (by rw [y] at h3; exact h3)⟩
      · obtain ⟨v, q1, q2⟩ := S0.slots i d q
        exact ⟨v, q1, q2.upx ux⟩
      · obtain ⟨b, vs, _, q2, _⟩ := S0.owns i fs q
        simp [Fb.to] at q2
      · obtain ⟨b, vs, _, y2, _⟩ := S0.owns i l1 q1
        simp [Fb.to] at y2
    refine ⟨a, H1, N, qual, defScope st, f, cdv, L, fun b => (∃ o, H b = some o) ∨ b = a, rfl, by rw [es1], ?_, un, hok, fun b o e => ⟨up b o e, .inl ⟨o, e⟩⟩, fun b q => ?_, fun A' hr' hf' => ?_⟩
    · refine AllBare.push ?_ rfl
      rw [es1]; exact e0.bare
    · rcases q with ⟨o, q⟩ | q
      · exact ⟨o, up b o q⟩
      · rw [q]; exact ⟨_, own a go (.inr rfl) gpa⟩
    · have G : (Gx.mk P w W mg base N qual (defScope st) f cdv A' out L fun b => (∃ o, H b = some o) ∨ b = a).Ok := by
        refine ⟨⟨s, H, hL, ?_⟩, fun b q y => ?_⟩
        · have O := I1.ok
          rw [← hL]
          exact ⟨O.mod, O.kind, O.glob, O.blt, O.above, O.inj, O.has, O.cab, fun _ => hr'.hd, Around.frames_deeper hf', O.stk, O.exf, O.bs, O.bsz, O.noex, O.exfs, O.funs, O.frf⟩
        · have q : b = L ∨ ∃ y, (envOfC qual (defScope st) L f cdv).cells.lookup y = some b := q
          obtain ⟨h2, h3, _⟩ := hfr b q
          rcases y with ⟨o, y⟩ | y
          · rw [h2] at y; cases y
          · rw [y] at h3; exact Nat.lt_irrefl _ h3
      refine ⟨G, _, _, _, _, _, s1.gens.size, .fresh _, go, Z A', own a go (.inr rfl) gpa, nF a haH, .inr rfl, fun h e => ⟨go, nm, qn, e, g1, g2, g3⟩, gpa, Array.getElem?_push_size .., Nat.zero_le _, fun z => absurd z (Nat.lt_irrefl _), fun z1 s2 Z2 w2 => ?_⟩
      refine to_func ((h cdv A' out L _ (hr'.deeper _)).run T (T.length - 0) [] _ e1 T z1 s2 s2 _ [] _ _ id id ⟨over_func, rfl, rfl, rfl⟩ G (by simp) ⟨hq, [], by simp⟩ (fun n z s0 s3 hn hi => ?_) (Z2.gi G w2))
      obtain ⟨e2, σ2, om, lv, m, σ, H2, F2, Z3, w3, I, S1, X⟩ := hi
      obtain ⟨H3, _, _, _, Bk, _, _⟩ := turn_back G Z3 w3 I S1 X
      have n0 : n = 0 := by omega
      subst n0
      exact to_end (.ok (.ret .none)) ⟨rfl, rfl, H3, Bk⟩
  exact main _ _ _ _ rfl rfl rfl fun h => Heap.get?_push_size _ rfl
end Ev

/-! Ev38: a comprehension over a generator that a call makes. -/
namespace Ev
open PySem PySem.Spec PyProof.Rows L2 GenW Tn
theorem _root_.L2.Inv.gens {X : Cx} {pins : List (Addr × Obj)} {σ : L2.St} {H : Hp} {s : Shared} {G : Array GenState} (I : Inv X pins σ H s) (b : AllBare G) : Inv X pins σ H { s with gens := G } :=
  ⟨I.ok, I.os, b, I.base, I.loc, I.cell, I.free, I.freeC, I.pin, I.hok, I.len⟩
/-- a part of the consumer's code: the generator sleeps on -/
theorem wp_sleep {α : Type} {M : Model} {A : Around} {t : Sem α} {s : Shared} {Q : α → Shared → Prop} (b : AllBare s.gens) (hb : ∀ a s1, Q a s1 → AllBare s1.gens) (hq : ∀ a s1 G, AllBare G → Q a s1 → Q a { s1 with gens := G })
    (h : ∀ G, AllBare G → wpAny M A t Q (fun _ _ => False) { s with gens := G }) : wpAny M A t (fun a s1 => Q a s1 ∧ ∀ (g : Nat) (gs : GenState), s.gens[g]? = some gs → Slp.susp gs = true → s1.gens[g]? = some gs) (fun _ _ => False) s :=
  wpAny_mono (Slp.wpAny_asleep (h (Slp.kill s.gens) (Slp.kill_bare b))) (fun a s1 ⟨s2, e, d, q⟩ => by
    subst e
    exact ⟨hq a s2 _ (Slp.rv_bare d b (hb a s2 q)) q, fun g gs h1 h2 => Slp.rv_asleep d h1 h2⟩) fun _ _ ⟨_, _, _, z⟩ => z.elim
section
variable {W : Wd} {E : XK} {X : Cx} {pins : List (Addr × Obj)} {σ : L2.St} {H : Hp} {s : Shared}
/-- the generator's call: what the consumer has behind it -/
theorem call_born {T : List D} {F : Fb} {k n : Nat} {f : Addr} {fd : FuncData} {ps : List Str} {fs : List D → List Cell → R (List D)} {us : List Value} {vs : List V} {ds : List D} {g : List Cell} {E1 : Value → Shared → Prop} {Q : Value → Shared → Prop} (hK : X.K = W.K) (G : GNew X.prog X.w W X.mg X.base k n f fd ps fs) (hr : Room k X.A) (bd : Binds X.K fd ps [])
    (I : Inv X pins σ H s) (c : Cells W F H g) (r : Vals vs us) (rl : RepL W F H ds vs) (hl : ds.length = n) (ng : noGs ds = true) (hT : fs ds [] = .ok T [])
    (hQ : ∀ (a : Nat) (H1 : Hp) (N : List Str) (qual : Str) (sc : Scope) (f : Addr) (cdv : Value) (L : Nat) (B : Addr → Prop) (s1 : Shared), Inv X pins σ H1 s1 → (∀ b o, H b = some o → H1 b = some o ∧ B b) → (∀ b, B b → ∃ o, H1 b = some o) →
      (∀ A : Around, Room k A → A.frames = some X.stack → (Gx.mk X.prog X.w W X.mg X.base N qual sc f cdv A X.stack L B).Ok ∧ Rest ⟨X.prog, X.w, W, X.mg, X.base, N, qual, sc, f, cdv, A, X.stack, L, B⟩ T a 0 ⟨H1, F⟩ s1) → Q (.ref a) s1) :
    wpAny (model X.prog X.w) X.A (call (.ref f) us) Q E1 s := by
  have e := I.env0
  rw [hK] at e
  have l2 : us.length = ps.length := by rw [← r.length, ← rl.length, hl, G.len]
  have b := bd s us I.kIn (by rw [List.append_nil]; exact l2)
  rw [List.append_nil] at b
  refine wpAny_call (codeAny_mono (G.run X.A X.stack s H F ⟨us, []⟩ us vs ds T hr e c.tr b r rl hl ng hT) fun res s1 z => ?_)
  rcases res with er | (u | _ | _ | _)
  · exact z.elim
  all_goals first
    | exact z.elim
    | (obtain ⟨a, H1, N, qual, sc, f, cdv, L, B, rfl, os, br, un, ok, up, st, all⟩ := z
       exact hQ a H1 N qual sc f cdv L B s1 (I.call' os un ok br fun b z => by simp at z) up st all)
theorem Rest.gen {C : Gx} {T : List D} {a j : Nat} {z : Gv} (x : Rest C T a j z s) : ∃ g, s.heap.IsGen a g := by
  obtain ⟨e, σ, om, lv, m, g, gs, oa, Z, h1, h2, h3, h4, h5, _⟩ := x
  exact ⟨g, h4 _ h5⟩
/-- what a state of the consumer gives to a turn -/
theorem _root_.L2.Inv.wk {C : Gx} {g : List Cell} {F : Fb} (I : Inv X pins σ H s) (hK : X.K = W.K) (e : C = ⟨X.prog, X.w, W, X.mg, X.base, C.N, C.qual, C.sc, C.f, C.cdv, X.A.in1, X.stack, C.L, C.B⟩) (tr : ∀ a, F.has a → ∃ o, H a = some o) (B : ∀ a, C.B a → ∃ o, H a = some o) : Wk C ⟨H, F⟩ s := by
  have e0 := I.env0
  rw [hK] at e0
  rw [e]
  exact ⟨⟨e0.frames, e0.mod, e0.bs, e0.bsz, e0.funs, e0.frf, e0.hok, e0.bare⟩, tr, B⟩
/-- the consumer behind a turn -/
theorem _root_.L2.Inv.turn {C : Gx} {F : Fb} {H1 : Hp} {s0 s1 : Shared} (I : Inv X pins σ H s) (e : C.out = X.stack) (e1 : C.P = X.prog) (e2 : C.w = X.w) (h0 : s0.heap = s.heap) (ho : s0.os = s.os) (b : Back C ⟨H, F⟩ s0 H1 s1) : Inv X pins σ H1 s1 := by
  have un := b.un
  rw [e, h0] at un
  have ok := b.hok
  rw [e1, e2] at ok
  exact I.call' (b.os.trans ho) un ok b.bare fun b z => by simp at z
theorem cut_nx {H H1 : Hp} {q : Addr} (k : ∀ a o, NX o → H a = some o → H1 a = some o) : ∀ a o, NX o → cut H q a = some o → cut H1 q a = some o := fun a o nx h => by
  obtain ⟨h1, h2⟩ := cut_some h
  rw [cut_ne h1]
  exact k a o nx h2
theorem cut_st {H H1 : Hp} {q : Addr} (k : ∀ a o, H a = some o → ∃ o1, H1 a = some o1) : ∀ a o, cut H q a = some o → ∃ o1, cut H1 q a = some o1 := fun a o h => by
  obtain ⟨h1, h2⟩ := cut_some h
  rw [cut_ne h1]
  exact k a o h2
theorem Xe.turned {F0 F : Fb} {H0 H H1 : Hp} (x : Xe F0 F H0 H) (k : ∀ a o, H0 a = some o → H a = some o → H1 a = some o) (st : ∀ a o, H a = some o → ∃ o1, H1 a = some o1) : Xe F0 F H0 H1 :=
  ⟨fun a o h n => k a o h (x.keep a o h n), fun a o h => by
    obtain ⟨o1, h1⟩ := x.st a o h
    exact st a o1 h1, x.th, x.nu, x.om⟩
end
section
variable {W : Wd} {E : XK} {X : Cx} {mr : M (List D)} {f : D → Env → Option Env} {v1 : List Nat} {na : M Bool} {ma : M D} {elt tg e1 : Expr} {es ifs : List Expr} {scope : Scope} {own : List (Str × Nat)} {pos pos2 pos3 p : Pos} {x : Str} {k n : Nat} {fa : Addr} {fd : FuncData} {ps : List Str} {fs : List D → List Cell → R (List D)}
theorem lcg_core {pins : List (Addr × Obj)} {s : Shared} {σ : L2.St} {H : Hp} {Q : VK} {use : Option (Value → Sem Unit)} {Qf : Value → Shared → Prop} (hK : X.K = W.K) (G : GNew X.prog X.w W X.mg X.base k n fa fd ps fs) (hr0 : Room k X.A) (hr : Room (k + 3) X.A) (hgl : Gl X x) (hm : X.mg x = some (.ref fa)) (hkp : PySem.W.keepIn X.K (.ref fa) = true) (bd : Binds X.K fd ps [])
    (ha : PA X (e1 :: es) (tL W E mr)) (hdb : (x == ("__debug__" : Str)) = false) (hst : starEach (e1 :: es) X.env = (false, eval e1 X.env) :: starEach es X.env) (hpl : (backTo pos (starEach es X.env)).any (·.1) = false)
    (hc : X.calm = true) (hN : X.N.Nodup) (I : Inv X pins σ H s) (ok : BlkOk X.N X.env.scope scope own)
    (hg : ∀ (s : Shared) (H : Hp) (C : Addr) (cl : List (Str × Addr)) (fp : List Addr), PG (X.blk s H scope (compEnvC scope cl C X.env) fp) tg (tG W f v1)) (ht : ∀ (s : Shared) (H : Hp) (C : Addr) (cl : List (Str × Addr)) (fp : List Addr), PTs (X.blk s H scope (compEnvC scope cl C X.env) fp) ifs (tB W (fun _ _ _ => False) na))
    (he : ∀ (s : Shared) (H : Hp) (C : Addr) (cl : List (Str × Addr)) (fp : List Addr), PE (X.blk s H scope (compEnvC scope cl C X.env) fp) elt (tM W (fun _ _ _ => False) ma)) (hv : ∀ i ∈ v1, i ∈ own.map (·.2)) (hs : ∀ y, foldedSetIterable (.Call (.Name x p) (e1 :: es) [] pos) X.env y = pure y)
    (h : tF W E (lcM (genI n fs mr) f na ma (own.map (·.2))) σ H Q)
    (hRR : ∀ D C s1 m H1, Inv X pins σ H1 s1 → Q (.ref D) H1 → s1.heap.Ns C m → FpOk X pins H1 C → compPost (model X.prog X.w) X.A X.xe use Qf (.ref D) C (.ok .next) s1) :
    wpAny (model X.prog X.w) X.A (comprehension (.ListComp elt [⟨tg, .Call (.Name x p) (e1 :: es) [] pos, ifs, 0⟩] scope pos2) scope X.env pos3 (newList []) false (eval (.Call (.Name x p) (e1 :: es) [] pos) X.env) use) Qf X.xe s := by
  have hfree : ∀ y ∈ scope.names, y.2 = .free → ∃ c, X.env.cells.lookup y.1 = some c := fun y hy e => by
    rcases ok.free y hy e with k | k
    · exact I.ok.has _ (.inl k)
    · exact I.ok.has _ (.inr k)
  obtain ⟨F, en, g, S, pp⟩ := h
  refine wpAny_comprehension_free (use := use) rfl hs (closure_ok hfree) ok.kind (fun y hy e => by rw [ok.uniq y hy, e]) (wpAny_Call_Name_kw (ld_glob I hgl hm ?_ hdb))
  refine PySem.W.callWith_K (h₀ := X.base) I.ok.mod.kin hkp (thn (ha.run pos pins s σ H (fun vs H1 => ∃ F1 ds g1 T, Xe F F1 H H1 ∧ Cells W F1 H1 g1 ∧ RepL W F1 H1 ds vs ∧ ds.length = n ∧ noGs ds = true ∧ fs ds [] = .ok T [] ∧ T.length ≤ 16777216 ∧
      Post W E F1 H1 (lcL f na ma (wipeE en (own.map (·.2))) T g1) fun ds' _ F2 H2 => ∀ p vs, H2 p = none → RepL W F2 H2 ds' vs → Q (.ref p) (upd H2 p (.lst vs))) I ⟨F, en, g, S, ?_⟩) fun us s1 ⟨vs, H1, I1, r, F1, ds, g1, T, x1, c1, rl, hl, ng, hT, hle, k1⟩ => ⟨I1.kIn, ?_⟩) hst hpl
  · unfold lcM genI at pp
    rw [bind_assoc] at pp
    refine (Post.bind pp).mono fun ds g1 F1 H1 x1 c1 k1 vs rl => ?_
    split at k1
    · rename_i hc2
      cases q : fs ds [] with
      | ok T g2 =>
        rw [q] at k1
        cases g2 with
        | nil =>
          have k1 : Post W E F1 H1 (if T.length ≤ 16777216 then lcL f na ma (wipeE en (own.map (·.2))) T g1 else .bad) _ := k1
          split at k1
          · rename_i hle
            exact ⟨F1, ds, g1, T, x1, c1, rl, hc2.1, hc2.2, q, hle, k1⟩
          · exact k1.elim
        | cons _ _ => exact k1.elim
      | ex _ _ _ => rw [q] at k1; exact k1.elim
      | bad => rw [q] at k1; exact k1.elim
    · exact k1.elim
  refine call_born hK G hr0 bd I1 c1 r rl hl ng hT fun a H2 Ng qual sc fg cdv L B s2 I2 up2 st2 born => ?_
  have hf1 : X.A.in1.frames = some X.stack := I.ok.frames
  obtain ⟨GO, R2⟩ := born X.A.in1 (Room.in1 (hr.mono (by omega))) hf1
  obtain ⟨gg, ig⟩ := R2.gen
  refine wpAny_pyIter_gen ig ?_
  refine wpAny_newObj_type (newEnv_comp ?_) (by show 0 ≤ sizeLine; decide)
  generalize hD : s2.heap.objs.size = D
  have hDn : H2 D = none := I2.hok.fresh (Nat.le_of_eq hD)
  -- the new list
  generalize hs3 : ({ s2 with heap := s2.heap.push { cls := .type "list", data := .seq ([] : List Value).toArray } } : Shared) = s3
  have I3 : Inv X pins σ (upd H2 D (.lst [])) s3 := by
    rw [← hs3]
    refine I2.laid (t' := s2.toks) (fun b o e => Heap.get?_push_of_some _ e) (Nat.le_of_eq hD) ⟨Nat.zero_le _, [], 0, .nil, ?_⟩
    rw [← hD]
    exact Heap.get?_push_size _ rfl
  have cH2 : Cells W F1 H2 g1 := c1.stay fun b o e => (up2 b o e).1
  have nF1 : ¬ F1.has D := cH2.none hDn
  have R3 : Rest ⟨X.prog, X.w, W, X.mg, X.base, Ng, qual, sc, fg, cdv, X.A.in1, X.stack, L, B⟩ T a 0 ⟨upd H2 D (.lst []), F1.wi D⟩ s3 := R2.on (P := X.prog) (w := X.w) ⟨fun b o e nn => ⟨(upd_ne (ne_of_none e hDn)).trans e, fun y => (wi_has.mp y).elim (ne_of_none e hDn) nn⟩, [], by simp⟩ I3.hok fun g gs q _ => by rw [← hs3]; exact q
  have I4 := block_start (fp := []) I3 ok hN fun b hb => by simp at hb
  have pg := hg s3 (upd H2 D (.lst [])) s3.heap.objs.size (cellsFrom (s3.heap.objs.size + 1) scope.names (cloFrom X.env.cells scope.names [])) []
  have pt := ht s3 (upd H2 D (.lst [])) s3.heap.objs.size (cellsFrom (s3.heap.objs.size + 1) scope.names (cloFrom X.env.cells scope.names [])) []
  have pe := he s3 (upd H2 D (.lst [])) s3.heap.objs.size (cellsFrom (s3.heap.objs.size + 1) scope.names (cloFrom X.env.cells scope.names [])) []
  show codeAny _ _ (.compStart (.ListComp elt [⟨tg, .Call (.Name x p) (e1 :: es) [] pos, ifs, 0⟩] scope pos2) 0 (.ref a) (.ref D) (compEnvC scope (cellsFrom (s3.heap.objs.size + 1) scope.names (cloFrom X.env.cells scope.names [])) s3.heap.objs.size X.env)) (compPost (model X.prog X.w) X.A X.xe use Qf (.ref D) s3.heap.objs.size) { s3 with heap := pushCells (s3.heap.push { cls := .type "dict", data := .dict #[] }) scope.names }
  generalize hce : compEnvC scope (cellsFrom (s3.heap.objs.size + 1) scope.names (cloFrom X.env.cells scope.names [])) s3.heap.objs.size X.env = ce at I4 pg pt pe ⊢
  have cL : ce.locals = s3.heap.objs.size := by subst hce; rfl
  generalize hH3 : upd H2 D (.lst []) = H3 at I3 I4 pg pt pe R3
  generalize hs4 : ({ s3 with heap := pushCells (s3.heap.push { cls := .type "dict", data := .dict #[] }) scope.names } : Shared) = s4 at I4 ⊢
  have R4 : Rest ⟨X.prog, X.w, W, X.mg, X.base, Ng, qual, sc, fg, cdv, X.A.in1, X.stack, L, B⟩ T a 0 ⟨H3, F1.wi D⟩ s4 := R3.on (P := X.prog) (w := X.w) ⟨fun b o e nn => ⟨e, nn⟩, [], by simp⟩ I4.hok fun g gs q _ => by rw [← hs4]; exact q
  have q3 : H3 D = some (.lst []) := by rw [← hH3]; exact upd_same
  have c3 : cut H3 D = H2 := by rw [← hH3, cut_upd, cut_none hDn]
  have S1 : St W F1 en g1 σ H1 := S.step x1 c1
  have Sw := S1.wipe (own.map (·.2))
  have loop : codeAny (model X.prog X.w) X.A (.compLoop (.ListComp elt [⟨tg, .Call (.Name x p) (e1 :: es) [] pos, ifs, 0⟩] scope pos2) 0 (.ref a) (.ref D) ce) (compPost (model X.prog X.w) X.A X.xe use Qf (.ref D) s3.heap.objs.size) s4 := by
    refine compLoop_any (fun m s' => ∃ j F' H' g' acc vs, m = T.length - j ∧ Inv (X.blk s3 H3 scope ce []) [] (L2.wipe σ (own.map (·.2))) H' s' ∧ Rest ⟨X.prog, X.w, W, X.mg, X.base, Ng, qual, sc, fg, cdv, X.A.in1, X.stack, L, B⟩ T a j ⟨H', F'.wi D⟩ s' ∧ (∀ b o, H2 b = some o → ∃ o1, H' b = some o1) ∧
      Xe F1 F' H1 (cut H' D) ∧ Cells W F' (cut H' D) g' ∧ H' D = some (.lst vs) ∧ RepL W F' (cut H' D) acc vs ∧ acc.length ≤ j ∧
      Post W E F1 H1 ((lcL f na ma (wipeE en (own.map (·.2))) (T.drop j) g').bind fun r g3 => .ok (acc ++ r) g3) fun ds' _ F2 H2 => ∀ p vs, H2 p = none → RepL W F2 H2 ds' vs → Q (.ref p) (upd H2 p (.lst vs))) ?_ T.length ⟨0, F1, H3, g1, [], [], rfl, I4, R4, fun b o e => ?_, ?_, ?_, q3, rfl, Nat.le_refl _, ?_⟩
    rotate_left
    · by_cases z : b = D
      · rw [z]; exact ⟨_, q3⟩
      · rw [← hH3, upd_ne z]; exact ⟨o, e⟩
    · rw [c3]
      exact .all fun b o e => (up2 b o e).1
    · rw [c3]; exact cH2
    · have : ((lcL f na ma (wipeE en (own.map (·.2))) (T.drop 0) g1).bind fun r g3 => R.ok ([] ++ r) g3) = lcL f na ma (wipeE en (own.map (·.2))) T g1 := by
        rw [List.drop_zero]
        cases lcL f na ma (wipeE en (own.map (·.2))) T g1 <;> rfl
      rw [this]
      exact k1
    rintro m s5 ⟨j, F5, H5, g5, acc, vs5, rfl, I5, R5, st5, x5, c5, q5, r5, l5, k5⟩
    have w5 : Wk ⟨X.prog, X.w, W, X.mg, X.base, Ng, qual, sc, fg, cdv, X.A.in1, X.stack, L, B⟩ ⟨H5, F5.wi D⟩ s5 := I5.wk (g := g5) (W := W) hK rfl (fun b y => by
      rcases wi_has.mp y with y | y
      · rw [y]; exact ⟨_, q5⟩
      · obtain ⟨o, e⟩ := c5.tr b y
        exact ⟨o, (cut_some e).2⟩) fun b y => by
      obtain ⟨o, e⟩ := st2 b y
      exact st5 b o e
    refine rest_next (A := X.A) GO (I5.ok.hd hc) hr.depth I5.nolimit R5 w5 (fun d y v H6 s6 s0 hd rv rd e0 eo B6 R6 => ?_) (fun H6 s6 s0 hj e0 eo B6 => ?_)
    · -- an item
      have I6 := I5.turn (C := ⟨X.prog, X.w, W, X.mg, X.base, Ng, qual, sc, fg, cdv, X.A.in1, X.stack, L, B⟩) rfl rfl rfl e0 eo B6
      have q6 : H6 D = some (.lst vs5) := B6.nx D _ (fun _ _ y => by unfold sx at y; cases y) q5
      have x6 : Xe F1 F5 H1 (cut H6 D) := x5.turned (fun b o h1 h2 => by
        obtain ⟨h3, h4⟩ := cut_some h2
        rw [cut_ne h3]
        exact B6.B b o (up2 b o h1).2 h4) (cut_st B6.st)
      have c6 : Cells W F5 (cut H6 D) g5 := c5.nx (cut_nx B6.nx) (cut_st B6.st)
      have r6 : RepL W F5 (cut H6 D) acc vs5 := r5.upx (.same (cut_nx B6.nx))
      have st6 : ∀ b o, H2 b = some o → ∃ o1, H6 b = some o1 := fun b o e => by
        obtain ⟨o1, e1⟩ := st5 b o e
        exact B6.st b o1 e1
      have S6 : St W (F5.wi D) (wipeE en (own.map (·.2))) g5 (L2.wipe σ (own.map (·.2))) H6 := (Sw.step x6 c6).wi q6
      rw [drop_at hd] at k5
      unfold lcL at k5
      cases qf : f d (wipeE en (own.map (·.2))) with
      | none => simp only [qf] at k5; exact k5.elim
      | some e2 =>
      simp only [qf] at k5
      rw [bind_assoc] at k5
      obtain ⟨b, g7, hb, k5⟩ := post_noex k5
      have nfp : D ∉ F5.nu := fun z => by rw [x5.nu] at z; exact nF1 (.inl z)
      have ig6 := R6.gen
      obtain ⟨gn, og, nm, qn, eo6, cls6, dat6, _⟩ := ig6
      have jl : j < T.length := (List.getElem?_eq_some_iff.mp hd).1
      refine go_of eo6 cls6 dat6 (by decide) ?_
      -- its target
      refine thnF (wp_sleep (Q := fun _ s' => ∃ σ' H', Inv (X.blk s3 H3 scope ce []) [] σ' H' s' ∧ H' = H6 ∧ St W (F5.wi D) e2 g5 σ' H6 ∧ L2.wipe σ' (own.map (·.2)) = L2.wipe σ (own.map (·.2))) I6.bare (fun _ s' ⟨_, _, J, _⟩ => J.bare) (fun _ s' G bG ⟨σ', H', J, q⟩ => ⟨σ', H', J.gens bG, q⟩) fun G bG =>
        thnF (pg.run [] _ _ H6 y v (fun σ' H' => H' = H6 ∧ St W (F5.wi D) e2 g5 σ' H6 ∧ L2.wipe σ' (own.map (·.2)) = L2.wipe σ (own.map (·.2))) (I6.gens bG) rv ⟨_, _, _, _, _, S6, rd, qf, fun σ' S7 w7 => ⟨rfl, S7, by rw [w7 _ hv, wipe_wipe]⟩⟩) fun _ s' q => q) fun _ s7 ⟨⟨σ7, H7, I7, e7, S7, w7⟩, a7⟩ => ?_
      subst e7
      -- its tests
      refine thnF (wp_sleep (Q := fun c s' => ∃ H', Inv (X.blk s3 H3 scope ce []) [] σ7 H' s' ∧ c = b ∧ ∃ F', Xe (F5.wi D) F' H7 H' ∧ Cells W F' H' g7) I7.bare (fun _ s' ⟨_, J, _⟩ => J.bare) (fun _ s' G bG ⟨H', J, q⟩ => ⟨H', J.gens bG, q⟩) fun G bG =>
        thnF (pt.run [] _ σ7 H7 (fun c H' => c = b ∧ ∃ F', Xe (F5.wi D) F' H7 H' ∧ Cells W F' H' g7) (I7.gens bG) ⟨_, _, _, S7, by rw [hb]; exact fun F' H' x c => ⟨rfl, F', x, c⟩⟩) fun c s' q => q) fun c s8 ⟨⟨H8, I8, ec, F8, x8, c8⟩, a8⟩ => ?_
      subst ec
      obtain ⟨F9, rfl, x9, c9, q9⟩ := Xe.wo q6 x8 c8 nfp
      have x69 := x6.trans x9
      have R8 := R6.on (P := X.prog) (w := X.w) (z1 := ⟨H8, F9.wi D⟩) (s1 := s8) x8.up I8.hok fun g gs h1 h2 => a8 g gs (a7 g gs h1 (h2 (Nat.succ_pos j))) (h2 (Nat.succ_pos j))
      have st8 : ∀ b o, H2 b = some o → ∃ o1, H8 b = some o1 := fun b o e => by
        obtain ⟨o1, e1⟩ := st6 b o e
        exact x8.st b o1 e1
      have hl7 : (L2.wipe σ (own.map (·.2))).length = σ7.length := by rw [← w7, wipe_length]
      cases c with
      | false =>
        rw [if_neg Bool.false_ne_true] at k5
        refine ⟨T.length - (j + 1), by omega, j + 1, F9, H8, g7, acc, vs5, rfl, I8.weak hl7 (fun i v e => ?_), R8, st8, x69, c9, q9, r6.up x9.up, by omega, k5⟩
        rw [← w7] at e
        exact (wipe_some e).1
      | true =>
        rw [if_pos rfl] at k5
        rw [bind_assoc] at k5
        obtain ⟨yv, g8, hy, k5⟩ := post_noex k5
        simp only [if_true]
        -- its value
        refine thnF (wp_sleep (Q := fun u s' => ∃ v H', Inv (X.blk s3 H3 scope ce []) [] σ7 H' s' ∧ RelV v u ∧ ∃ F', Xe (F9.wi D) F' H8 H' ∧ Cells W F' H' g8 ∧ Rep W F' H' yv v) I8.bare (fun _ s' ⟨_, _, J, _⟩ => J.bare) (fun _ s' G bG ⟨v, H', J, q⟩ => ⟨v, H', J.gens bG, q⟩) fun G bG =>
          thnF (pe.run [] _ σ7 H8 (fun v H' => ∃ F', Xe (F9.wi D) F' H8 H' ∧ Cells W F' H' g8 ∧ Rep W F' H' yv v) (I8.gens bG) ⟨_, _, _, S7.step x8 c8, by rw [hy]; exact fun F' H' x c v r => ⟨F', x, c, r⟩⟩) fun u s' q => q) fun u s9 ⟨⟨v9, H9, I9, rv9, F10, x10, c10, r10⟩, a9⟩ => ?_
        have nfp9 : D ∉ F9.nu := by rw [x9.nu]; exact nfp
        obtain ⟨F11, rfl, x11, c11, q11⟩ := Xe.wo q9 x10 c10 nfp9
        have x611 := x69.trans x11
        have len5 := r6.length
        have R9 := R8.on (P := X.prog) (w := X.w) (z1 := ⟨H9, F11.wi D⟩) (s1 := s9) x10.up I9.hok fun g gs h1 h2 => a9 g gs h1 (h2 (Nat.succ_pos j))
        -- laid behind the list
        refine thnF (wp_sleep (Q := fun _ s' => Inv (X.blk s3 H3 scope ce []) [] σ7 (upd H9 D (.lst (vs5 ++ [v9]))) s') I9.bare (fun _ s' J => J.bare) (fun _ s' G bG J => J.gens bG) fun G bG => app_ok (X := X.blk s3 H3 scope ce []) (I9.gens bG) q11 (by rw [sizeLine_eq]; omega) rv9 fun s' J => J) fun _ s10 ⟨I10, a10⟩ => ?_
        have R10 := R9.on (P := X.prog) (w := X.w) (z1 := ⟨upd H9 D (.lst (vs5 ++ [v9])), F11.wi D⟩) (s1 := s10) ⟨fun b o e nn => ⟨(upd_ne fun z => nn (wi_has.mpr (.inl z))).trans e, nn⟩, [], by simp⟩ I10.hok fun g gs h1 h2 => a10 g gs h1 (h2 (Nat.succ_pos j))
        refine ⟨T.length - (j + 1), by omega, j + 1, F11, _, g8, acc ++ [yv], vs5 ++ [v9], rfl, I10.weak hl7 (fun i v e => ?_), R10, fun b o e => ?_, ?_, ?_, upd_same, ?_, ?_, ?_⟩
        · rw [← w7] at e
          exact (wipe_some e).1
        · obtain ⟨o1, e1⟩ := st8 b o e
          obtain ⟨o2, e2⟩ := x10.st b o1 e1
          by_cases z : b = D
          · rw [z]; exact ⟨_, upd_same⟩
          · rw [upd_ne z]; exact ⟨o2, e2⟩
        · rw [cut_upd]; exact x611
        · rw [cut_upd]; exact c11
        · rw [cut_upd]
          exact ((r6.up x9.up).up x11.up).append (RepL.one (r10.up Up.wo))
        · rw [List.length_append, List.length_singleton]; omega
        · have : (((lcL f na ma (wipeE en (own.map (·.2))) (T.drop (j + 1)) g8).bind fun r g3 => R.ok (yv :: r) g3).bind fun r g3 => R.ok (acc ++ r) g3) = ((lcL f na ma (wipeE en (own.map (·.2))) (T.drop (j + 1)) g8).bind fun r g3 => .ok ((acc ++ [yv]) ++ r) g3) := by
            rw [bind_assoc]
            congr 1
            funext r g3
            show R.ok (acc ++ (yv :: r)) g3 = _
            rw [List.append_assoc]; rfl
          rw [← this]
          exact k5
    · -- the end
      have I6 := I5.turn (C := ⟨X.prog, X.w, W, X.mg, X.base, Ng, qual, sc, fg, cdv, X.A.in1, X.stack, L, B⟩) rfl rfl rfl e0 eo B6
      have q6 : H6 D = some (.lst vs5) := B6.nx D _ (fun _ _ y => by unfold sx at y; cases y) q5
      have x6 : Xe F1 F5 H1 (cut H6 D) := x5.turned (fun b o h1 h2 => by
        obtain ⟨h3, h4⟩ := cut_some h2
        rw [cut_ne h3]
        exact B6.B b o (up2 b o h1).2 h4) (cut_st B6.st)
      have c6 : Cells W F5 (cut H6 D) g5 := c5.nx (cut_nx B6.nx) (cut_st B6.st)
      have r6 : RepL W F5 (cut H6 D) acc vs5 := r5.upx (.same (cut_nx B6.nx))
      rw [hj, List.drop_length] at k5
      have qq := k5 F5 (cut H6 D) x6 c6 D vs5 cut_same (by rw [List.append_nil]; exact r6)
      rw [upd_cut q6] at qq
      have I7 : Inv X pins σ H6 s6 := I3.call' (ch := []) I6.os I6.base I6.hok I6.bare fun b hb => by simp at hb
      have nC : H6 s3.heap.objs.size = none := by
        have z : H6 ce.locals = none := I6.free
        rw [cL] at z
        exact z
      obtain ⟨m, hn, _⟩ := I6.loc
      have hn : s6.heap.Ns ce.locals m := hn
      rw [cL] at hn
      exact hRR D s3.heap.objs.size s6 m H6 I7 qq hn (I3.fpOk (Nat.le_refl _) nC)
  obtain ⟨gg4, ig4⟩ := R4.gen
  exact codeAny_compStart_list loop (wpAny_pyIter_gen ig4 loop)
/-- a list comprehension over a generator's items, its list a new one -/
theorem ev_lcG (hK : X.K = W.K) (G : GNew X.prog X.w W X.mg X.base k n fa fd ps fs) (hr0 : Room k X.A) (hr : Room (k + 3) X.A) (hgl : Gl X x) (hm : X.mg x = some (.ref fa)) (hkp : PySem.W.keepIn X.K (.ref fa) = true) (bd : Binds X.K fd ps [])
    (ha : PA X (e1 :: es) (tL W E mr)) (hc : X.calm = true) (hN : X.N.Nodup) (ok : BlkOk X.N X.env.scope scope own)
    (hg : ∀ (s : Shared) (H : Hp) (C : Addr) (cl : List (Str × Addr)) (fp : List Addr), PG (X.blk s H scope (compEnvC scope cl C X.env) fp) tg (tG W f v1)) (ht : ∀ (s : Shared) (H : Hp) (C : Addr) (cl : List (Str × Addr)) (fp : List Addr), PTs (X.blk s H scope (compEnvC scope cl C X.env) fp) ifs (tB W (fun _ _ _ => False) na))
    (he : ∀ (s : Shared) (H : Hp) (C : Addr) (cl : List (Str × Addr)) (fp : List Addr), PE (X.blk s H scope (compEnvC scope cl C X.env) fp) elt (tM W (fun _ _ _ => False) ma)) (hdb : (x == ("__debug__" : Str)) = false := by decide) (hst : starEach (e1 :: es) X.env = (false, eval e1 X.env) :: starEach es X.env := by rfl) (hpl : (backTo pos (starEach es X.env)).any (·.1) = false := by rfl)
    (hv : ∀ i ∈ v1, i ∈ own.map (·.2) := by decide) (hs : ∀ y, foldedSetIterable (.Call (.Name x p) (e1 :: es) [] pos) X.env y = pure y := by intro _; rfl) :
    PE X (.ListComp elt [⟨tg, .Call (.Name x p) (e1 :: es) [] pos, ifs, 0⟩] scope pos2) (tF W E (lcM (genI n fs mr) f na ma (own.map (·.2)))) := by
  refine ⟨fun pins s σ H Q I h => ?_⟩
  rw [eval_ListComp]
  refine lcg_core hK G hr0 hr hgl hm hkp bd ha hdb hst hpl hc hN I ok hg ht he hv hs h fun D C s1 m H1 I1 q hn ff => ⟨m, hn, fun h2 sb => ?_⟩
  obtain ⟨f0, f1, f2, f3, f4, f5⟩ := ff
  exact ⟨.ref D, H1, I1.turned (t' := s1.toks) (fun b o hb e => (sb.2 b hb).trans e) f0 f1 f3 f4 f5, rfl, q⟩
end
end Ev

/-! Ev39: for over a generator that a call makes. -/
namespace Ev
open PySem PySem.Spec PyProof.Rows L2 GenW Tn
theorem Xs.turned {F0 F : Fb} {H0 H H1 : Hp} (x : Xs F0 F H0 H) (k : ∀ a o, H0 a = some o → H a = some o → H1 a = some o) (st : ∀ a o, H a = some o → ∃ o1, H1 a = some o1) : Xs F0 F H0 H1 :=
  ⟨fun a o h n n2 => k a o h (x.keep a o h n n2), fun a o h => by
    obtain ⟨o1, h1⟩ := x.st a o h
    exact st a o1 h1, x.th, x.nu, x.om⟩
section
variable {W : Wd} {E : XK} {X : Cx} {mr : M (List D)} {f : D → Env → Option Env} {v1 : List Nat} {tg e1 : Expr} {es : List Expr} {body : List Stmt} {s1 : MS} {pos pos2 p : Pos} {x : Str} {k n : Nat} {fa : Addr} {fd : FuncData} {ps : List Str} {fs : List D → List Cell → R (List D)}
end
end Ev

/-! Ev41: value in o, o an object in a cell. -/
namespace Ev
open PySem PySem.Spec PyProof.Rows L2
structure OwnK (W : Wd) (c : Nat) (nm : Str) (g : Addr) : Prop where
  at_ : PySem.W.findIn W.K (.ref (W.cl c)) nm = some (some (.ref g))
  fn : PySem.W.isFn W.K (.ref g) = true
  fi : PySem.W.fnIn W.K g = true
def kObIn (c : Nat) (neg : Bool) (f : List D → List Cell → R D) : D → D → List Cell → R D := fun x y g => if (cobD c y g).isSome = true then asBl neg (f [y, x] g) else .bad
section
variable {W : Wd} {E : XK} {X : Cx} {CX : CXT} {k c : Nat} {g : Addr} {sp : Sp} {fs : List D → List Cell → R D}
def rObIn (W : Wd) (c : Nat) (neg : Bool) (sp : Sp) (E : XK) : R2 := fun x y H Q => ∃ a dx us, y = .ref a ∧ H a = some (.ins (W.cl c) dx us) ∧ sp [y, x] H (fun v H' => ∃ b, v = .bl b ∧ Q (.bl (if neg then !b else b)) H') E
theorem op_obIn (hK : X.K = W.K) (B : OwnK W c "__contains__" g) (F : FnP X.prog X.w X.K X.mg X.base CX k g sp) (hG : X.A.guards = some []) (hr : Room k X.A) (px : Passes CX X E) : OpR X (compareOp .In) (rObIn W c false sp E) := by
  rintro pins s σ H x y v u Q I rx ry ⟨a, dx, us, rfl, ha, h⟩
  cases ry
  obtain ⟨ox, od, J, _⟩ := ins_at I ha
  obtain ⟨m, hF⟩ := I.fr
  have kin := I.ok.mod.kin
  rw [hK] at kin
  exact PySem.W.in_K hF kin J B.at_ B.fn (wpAny_mono (run_at F hG hr rfl px I (.cons (a := V.ref a) (F := RelV) rfl (.cons rx .nil)) h) (fun z s' q => by
    obtain ⟨b, rfl, q2⟩ := ep_bool q
    exact wpAny_truthy_bool q2) fun _ _ z => z)
theorem op_obNin (hK : X.K = W.K) (B : OwnK W c "__contains__" g) (F : FnP X.prog X.w X.K X.mg X.base CX k g sp) (hG : X.A.guards = some []) (hr : Room k X.A) (px : Passes CX X E) : OpR X (compareOp .NotIn) (rObIn W c true sp E) := by
  rintro pins s σ H x y v u Q I rx ry ⟨a, dx, us, rfl, ha, h⟩
  cases ry
  obtain ⟨ox, od, J, _⟩ := ins_at I ha
  obtain ⟨m, hF⟩ := I.fr
  have kin := I.ok.mod.kin
  rw [hK] at kin
  exact PySem.W.notIn_K hF kin J B.at_ B.fn (wpAny_mono (run_at F hG hr rfl px I (.cons (a := V.ref a) (F := RelV) rfl (.cons rx .nil)) h) (fun z s' q => by
    obtain ⟨b, rfl, q2⟩ := ep_bool q
    exact wpAny_truthy_bool q2) fun _ _ z => z)
theorem c_obIn {neg : Bool} (hK : X.K = W.K) (B : OwnK W c "__contains__" g) (M : FnP X.prog X.w X.K X.mg X.base CX k g (spEv W 2 fs)) (hG : X.A.guards = some []) (hr : Room k X.A) (px : Passes CX X E) : CmpRu W E X (if neg then .NotIn else .In) (kObIn c neg fs) := by
  have h0 : OpR X (compareOp (if neg then .NotIn else .In)) (rObIn W c neg (spEv W 2 fs) E) := by
    cases neg
    · exact op_obIn hK B M hG hr px
    · exact op_obNin hK B M hG hr px
  refine ⟨_, h0, fun F H g x y v u Q cc rx ry p => ?_⟩
  obtain ⟨h1, p⟩ := post_ite (g := g) p
  obtain ⟨a, dx, w, rfl, hA⟩ := mth_q cc ry h1
  exact ⟨a, dx, _, rfl, hA, sp2 cc ry rx (post_bl p)⟩
end
end Ev

/-! Ev42: a new list that others may change (a cell); append to a cell. -/
namespace Ev
open PySem PySem.Spec PyProof.Rows L2
section
variable {W : Wd} {E : XK} {X : Cx} {F : Fb} {H : Hp} {g : List Cell} {a : Expr} {pos : Pos} {mo ma : M D}
def newM (m : M (List D)) : M D := fun e g => (m e g).bind fun ds g1 => .ok (.g g1.length) (g1 ++ [.lst ds])
def appC (mo m : M D) : MS := fun e g => (mo e g).toS fun x g0 => match x with
  | .g n => match g0[n]? with
    | some (.lst _) => (m e g0).toS fun d g1 => match g1[n]? with
      | some (.lst ds) => if ds.length < 16777216 then .nx e (g1.set n (.lst (ds ++ [d]))) else .bad
      | _ => .bad
    | _ => .bad
  | _ => .bad
/-- list(x), x a cell -/
def lstC (mo : M D) : M (List D) := fun e g => (mo e g).bind fun x g1 => match x with
  | .g n => match g1[n]? with
    | some (.lst ds) => .ok ds g1
    | _ => .bad
  | _ => .bad
end
end Ev

/-! Ev43: a + b of lists as a new list of this frame. -/
namespace Ev
open PySem PySem.Spec PyProof.Rows L2
section
variable {W : Wd} {E : XK} {X : Cx} {a b : Expr} {pos : Pos} {ma mb : M D}
def addFF (ma mb : M D) : M (List D) := fun e g => (ma e g).bind fun x g1 => (mb e g1).bind fun y g2 => match x, y with
  | .lst xs, .lst ys => if xs.length + ys.length ≤ 16777216 then .ok (xs ++ ys) g2 else .bad
  | _, _ => .bad
end
end Ev

/-! Ev51: super().__init__("..") of an exception class below ValueError. -/
namespace PySem
namespace VEX
open PySem.W
/-- ValueError.__init__ bound to e -/
abbrev vw (e : Addr) : Obj := { cls := .type "method-wrapper", dict := none, data := .fields #[.builtin "ValueError.__init__", .ref e], slots := #[] }
theorem vx_nac : (kfb_private% "nameAndClass") (Value.builtin "ValueError.__init__") = (pure (("__init__" : Str), Value.type "ValueError") : Sem (Str × Value)) := by kernel_rfl
theorem vx_type : typeOf (.builtin "ValueError.__init__") = pure (.type "wrapper_descriptor") := by
  show builtinType _ = _
  rw [builtinType_eq_fast]
  kernel_rfl
section
variable {prog : Program} {w : World} {M : Model} {A : Around} {E : Value → Shared → Prop} {h : Heap} {g : Array GenState} {d : Drawn} {t : Nat} {os : OsState}
theorem vx_bind {e C : Addr} {P : Fin → Shared → Prop} (hin : W.Looks M h (isInstance (.ref e) (.type "ValueError")) true) (hq : P (.done (.ret (.ref h.objs.size))) ⟨h.push (vw e), g, d, t, os⟩) :
    wpAny M A (Builtin.«wrapper_descriptor.__get__» ⟨[.builtin "ValueError.__init__", .ref e, .ref C], []⟩) P E ⟨h, g, d, t, os⟩ := by
  unfold Builtin.«wrapper_descriptor.__get__»
  refine wpAny_bind (wpAny_of_eq (a := (.builtin "ValueError.__init__", some (.ref e), some (.ref C))) (by first | rfl | kernel_rfl) ?_)
  show wpAny M A ((kfb_private% "checkInstance") (.builtin "ValueError.__init__") (.ref e) >>= fun _ => newFields "method-wrapper" [.builtin "ValueError.__init__", .ref e] >>= fun r => ret r) P E _
  refine wpAny_bind ?_
  show wpAny M A ((kfb_private% "nameAndClass") (.builtin "ValueError.__init__") >>= _) _ E _
  refine wpAny_bind (wpAny_of_eq vx_nac ?_)
  show wpAny M A (isInstance (.ref e) (.type "ValueError") >>= _) _ E _
  refine wpAny_bind (hin.at (KFB.if_not rfl ?_))
  exact wpAny_pure (wpAny_bind (wpAny_newObj_type (wpAny_pure hq)))
theorem vx_ga {so D e C : Addr} {l₀ l : List Value} {K : Frag} {name : Str} {tk : Tok} {Q : Fin → Shared → Prop}
    (hso : h.get? so = some { cls := .type "super", dict := none, data := .fields #[.ref D, .ref e, .ref C], slots := #[] }) (hno : W.Looks (model prog w) h (opaqueClassAbove (.ref C)) none)
    (hC : W.Looks (model prog w) h (mroOf (.ref C)) l₀) (hl : (l₀.dropWhile (· != .ref D)).drop 1 = l) (X : K.In h) (hf : alongIn K name l = some (some (.builtin "ValueError.__init__"))) (hxC : e ≠ C) (hn : (name == ("__class__" : Str)) = false)
    (hin : W.Looks (model prog w) h (isInstance (.ref e) (.type "ValueError")) true) (hq : Q (.done (.ret (.ref h.objs.size))) ⟨h.push (vw e), g, d, t, os⟩) :
    wpAny (model prog w) A (Builtin.«super.__getattribute__» ⟨[.ref so, .str name tk], []⟩) Q E ⟨h, g, d, t, os⟩ := by
  have k1 := ESX.slot_wd.lookup
  have k2 : (Value.ref e == Value.ref C) = false := by simp [hxC]
  have k3 := vx_type
  have k4 : Shared.TypeIs ⟨h, g, d, t, os⟩ (.builtin "ValueError.__init__") "wrapper_descriptor" := vx_type
  have k5 : ({ cls := .type "super", dict := none, data := .fields #[.ref D, .ref e, .ref C], slots := #[] } : Obj).data = .fields #[.ref D, .ref e, .ref C] := rfl
  have i0 : (#[.ref D, .ref e, .ref C] : Array Value)[0]? = some (.ref D) := rfl
  have i1 : (#[.ref D, .ref e, .ref C] : Array Value)[1]? = some (.ref e) := rfl
  have i2 : (#[.ref D, .ref e, .ref C] : Array Value)[2]? = some (.ref C) := rfl
  unfold Builtin.«super.__getattribute__»
  repeat (first
    | (with_reducible refine wpAny_field hso k5 i0 ?_)
    | (with_reducible refine wpAny_field hso k5 i1 ?_) | (with_reducible refine wpAny_field hso k5 i2 ?_)
    | (with_reducible refine ks_wpAny_notOpaque hno ?_) | (with_reducible refine Looks.at hC ?_; rw [hl])
    | (refine ks_forIn_along X (fun _ _ => rfl) rfl ?_ hf) | (with_reducible refine wpAny_call_entry ESX.slot_wd k4 ESX.entry_wd ?_ (ESX.args_wd _ _ _))
    | (with_reducible refine vx_bind hin ?_)
    | (with_reducible refine ⟨_, rfl, ?_⟩) | (simp only [hn, k2, Bool.or_false, Bool.false_eq_true, if_false])
    | wp_step | dsimp only)
  all_goals exact hq
theorem vx_get {so D e C : Addr} {l₀ l : List Value} {K : Frag} {name : Str} {pl : Sem Bool} {Q : Value × List Value → Shared → Prop}
    (hso : h.get? so = some { cls := .type "super", dict := none, data := .fields #[.ref D, .ref e, .ref C], slots := #[] }) (hno : W.Looks (model prog w) h (opaqueClassAbove (.ref C)) none)
    (hC : W.Looks (model prog w) h (mroOf (.ref C)) l₀) (hl : (l₀.dropWhile (· != .ref D)).drop 1 = l) (X : K.In h) (hf : alongIn K name l = some (some (.builtin "ValueError.__init__"))) (hxC : e ≠ C) (hn : (name == ("__class__" : Str)) = false)
    (hin : W.Looks (model prog w) h (isInstance (.ref e) (.type "ValueError")) true) (hq : Q (.ref h.objs.size, []) ⟨h.push (vw e), g, d, t + 1, os⟩) :
    wpAny (model prog w) A (getMethod (.ref so) name pl) Q E ⟨h, g, d, t, os⟩ := by
  have k1 := F.ks_slot_super_ga.lookup
  have k2 := F.ks_canon_super_ga
  have hT : ∀ t', (⟨h, g, d, t', os⟩ : Shared).TypeIs (.ref so) "super" := fun _ => ⟨_, hso, rfl⟩
  unfold getMethod
  refine wpAny_bind (wpAny_specialOf (hT _) k1 ?_)
  show wpAny _ _ (if (Manifest.canonical "super.__getattribute__" != "object.__getattribute__") = true then _ else _) _ _ _
  rw [if_pos k2]
  unfold getAttr getAttrBy
  refine wpAny_bind (wpAny_bind (wpAny_mkText (wpAny_holding (wpAny_bind (wpAny_typeOf (hT _) (wpAny_bind (wpAny_of_eq k1 ?_)))))))
  show wpAny _ _ (getAttrByItsOwn (.ref so) (.str name t) (.type "super") (.builtin "super.__getattribute__") true false) _ _ _
  unfold getAttrByItsOwn hookBefore callGetattribute boundAndCalled
  refine wpAny_bind (wpAny_of_eq (show (if onTheHeap (.type "super") then typeLookup (.type "super") "__getattr__" else pure none) = pure none from rfl) ?_)
  refine wpAny_bind (wpAny_attempt (wpAny_holding ?_))
  show wpAny _ _ (bindSpecial (.builtin "super.__getattribute__") (.ref so) >>= _) _ _ _
  refine wpAny_bind (wpAny_of_eq (F.ks_slot_super_ga.bind _) ?_)
  refine wpAny_mono (Q := fun v s' => v = .ref h.objs.size ∧ s' = ⟨h.push (vw e), g, d, t + 1, os⟩) (E := fun _ _ => False)
    (wpAny_call_entry F.ks_slot_super_ga (hT _) F.ks_entry_super_ga (vx_ga hso hno hC hl X hf hxC hn hin ⟨_, rfl, rfl, rfl⟩) (F.ks_gaArgs_super _ _)) (fun v s' hv => ?_) fun _ _ z => z.elim
  obtain ⟨rfl, rfl⟩ := hv
  exact wpAny_pure (wpAny_pure hq)
end
section
open PySem.Calls PyProof.Rows
variable {prog : Program} {w : World} {M : Model} {A : Around} {E : Value → Shared → Prop} {s : Shared}
theorem vx_with {pos : Pos} {u e : Addr} {first : List Value} {args : List (Bool × Sem Value)} {Q : Value → Shared → Prop} (hplain : args.any (·.1) = false)
    (h : wpAny M A (evalArgs (.ref u) true args []) (fun a s₁ => s₁.heap.get? u = some (vw e) ∧ wpAny M A (call (.ref u) (first ++ a.pos) a.kw) Q E s₁) E s) : wpAny M A (callWith pos (.ref u) first args []) Q E s := by
  unfold callWith
  refine wpAny_bind (wpAny_holding (wpAny_mono h (fun a s₁ h₁ => wpAny_bind (wpAny_standAt ?_)) fun _ _ x => x))
  obtain ⟨ho, hcall⟩ := h₁
  simp only [hplain, List.any_nil, Bool.or_false]
  refine wpAny_bind (m := keeperOf (.ref u)) ?_
  unfold keeperOf
  refine wpAny_bind (wpAny_load ho ?_)
  simp only [vw, show (Value.type "method-wrapper" != Value.type "method") = true by decide, show (Value.type "method-wrapper" == Value.type "builtin_function_or_method" || Value.type "method-wrapper" == Value.type "method-wrapper") = true by decide, if_true]
  refine wpAny_pure ?_
  exact wpAny_bind (wpAny_mono hcall (fun r s₂ hr => wpAny_bind (wpAny_holding (wpAny_point (wpAny_pure hr)))) fun _ _ x => x)
theorem vx_bound {pos : Pos} {u e : Addr} {first : List Value} {env : Env} {a : Expr} {rest : List Expr} {Q : Value → Shared → Prop}
    (h : wpAny M A (spliced (backTo pos (starEach (a :: rest) env))) (fun vs s₁ => s₁.heap.get? u = some (vw e) ∧ wpAny M A (call (.ref u) (first ++ vs)) Q E s₁) E s)
    (he : starEach (a :: rest) env = (false, eval a env) :: starEach rest env := by rfl) (hplain : (backTo pos (starEach rest env)).any (·.1) = false := by rfl) :
    wpAny M A (callWith pos (.ref u) first (backTo pos (starEach (a :: rest) env)) []) Q E s := by
  rw [he] at h ⊢
  refine vx_with (e := e) (by show (false || (backTo pos (starEach rest env)).any (·.1)) = false; rw [hplain]; rfl) ?_
  exact evalArgs_plain h
end
section
variable {prog : Program} {w : World} {A : Around} {E : Value → Shared → Prop} {h : Heap} {g : Array GenState} {d : Drawn} {t : Nat} {os : OsState}
variable {nm q : Str} {C N : Addr} {bs bm : List Value} {hdct : Bool} {sn : List Str} {sub : List Value} {ab : Bool} {col : Option Bool} {dd : Option Addr} {k0 k1 k2 k3 k5 : Option Value}
theorem vx_call {u e t0 : Addr} {rest : List Value} {Q : Value → Shared → Prop} (hbm : HandSPX.refsVE bm = true)
    (hC : h.get? C = some (excClassObj nm q C N bs bm hdct sn sub ab col dd k0 k1 k2 k3 k5 "ValueError.__new__")) (he : h.get? e = some (HandSPX.excO C t0)) (hu : h.get? u = some (vw e)) (hrest : rest.length ≤ sizeLine)
    (hq : ∀ h' t1, (∀ b o, b ≠ e → h.get? b = some o → h'.get? b = some o) → h'.get? e = some (HandSPX.excO C t1) → Q .none ⟨h', g, d, t, os⟩) :
    wpAny (model prog w) A (call (.ref u) rest) Q E ⟨h, g, d, t, os⟩ := by
  refine wpAny_call (codeAny_of_tree ?_)
  show wpAny _ A.in1 (callAny (.ref u) ⟨rest, []⟩) _ _ _
  simp only [callAny]
  refine wpAny_bind (wpAny_load hu ?_)
  simp only [vw, show (Value.type "method-wrapper" == Value.type "method" || Value.type "method-wrapper" == Value.type "builtin_function_or_method" || Value.type "method-wrapper" == Value.type "method-wrapper") = true by decide, if_true]
  refine W.KFB.if_so (by decide) ?_
  refine wpAny_bind (ESX.check_bound F.excBase_ValueError hC he rfl ?_)
  refine wpAny_bind (wpAny_pure (wpAny_pure ?_))
  refine ⟨Code.quiet_builtin _ (by decide +kernel), codeAny_builtin F.excBase_ValueError.initEntry ?_⟩
  rw [Around.under_plainId F.excBase_ValueError.init.plain _]
  wp_walk
  refine hq _ h.objs.size (fun b o hb ho => ?_) ?_
  · rw [Heap.get?_update_other _ _ (Ne.symm hb)]
    exact Heap.get?_push_of_some _ ho
  · rw [Heap.get?_update_self _ (Heap.get?_push_of_some _ he) rfl]
    rfl
end
end VEX
end PySem

/-! Ev52: an exception class whose __init__ says super().__init__("..") and sets the one field; C(value). -/
namespace Ev
open PySem PySem.Spec PyProof.Rows L2 NdefX
/-- what the __init__ of an exception's class keeps -/
def spXI (C : Addr) (fld : Str) : Sp := fun vs H Q E => ∃ a v, vs = [.ref a, v] ∧ H a = some (exo a C none) ∧ ∀ dx, H dx = none → dx ≠ a → Q .non (upd (upd H dx (exd dx [(fld, v)])) a (exo a C (some dx)))
section
variable {X : Cx} {K : PySem.W.Frag} {k : Nat} {f cc cda x C : Addr} {fd : FuncData} {ar : Arg} {body : List Stmt} {p0 p1 p2 p3 p4 p5 : Pos} {j : Nat} {txt : Str} {oc cl ccl : Value} {od cld cdd : Option Addr} {osl csl ccs : Array (Option Value)} {vs : Array Value} {file : Str} {tf : Tok} {cd : ClassData}
  {σ : L2.St} {H : Hp} {s : Shared} {pl : Sem Bool}
/-- super().__init__("..") -/
theorem ex_vsuper (hK : X.K = K) (T : OexC K C) (lk : K.lookup f = some ⟨oc, od, .func fd, osl⟩) (hp : (fd.params.posonlyargs ++ fd.params.args).head? = some ar) (har : ar.arg = "self")
    (hcode : K.lookup cda = some ⟨ccl, cdd, .fields vs, ccs⟩) (hvs : vs[2]? = some (.str file tf)) (hfile : ((X.prog.main.file : Str) == file) = true) (htop : (X.prog.main.scope.names.lookup ("super" : Str)).isSome = false)
    (hcell : K.lookup cc = some ⟨cl, cld, .cell (some (.ref C)), csl⟩) (hcls : PySem.W.clsIn K C = some cd) (hsub : PySem.W.subIn K (.ref C) (.ref C) = some true) (hsv : PySem.W.subIn K (.ref C) (.type "ValueError") = some true) (hsuper : X.mg "super" = none)
    (hm : PySem.W.ks_superIn K C C "__init__" = some (some (.builtin "ValueError.__init__"))) (ho : PySem.W.nsIn K PySem.cStatics "thirdparty.any" = some none)
    (hks : X.env.kindOf "super" = some .globalImplicit) (hkc : X.env.kindOf "__class__" = some .free) (hce : X.env.cells.lookup ("__class__" : Str) = some cc) (hfu : X.env.func = some f) (hco : X.env.code = .ref cda) (hint : interactive X.env = false)
    (hN : X.N[0]? = some ("self" : Str)) (hsl : X.env.kindOf "self" = some .local)
    (hsw : swapsWith (.Call (.Attribute (.Call (.Name "super" p0) [] [] p1) "__init__" p2) [.Constant (.str txt) j p3] [] p4) none p5.line X.env = pure false)
    (he : eval (.Call (.Attribute (.Call (.Name "super" p0) [] [] p1) "__init__" p2) [.Constant (.str txt) j p3] [] p4) X.env = (do
      let ov ← attributeBase (.Call (.Name "super" p0) [] [] p1) "__init__" X.env (eval (.Call (.Name "super" p0) [] [] p1) X.env)
      standAt p2.atName
      let (f, first) ← holding [ov] (getMethod ov "__init__" pl)
      callWith p4 f first (backTo p4 (starEach [.Constant (.str txt) j p3] X.env)) []))
    (hse : starEach [.Constant (.str txt) j p3] X.env = (false, eval (.Constant (.str txt) j p3) X.env) :: starEach [] X.env)
    (I : Inv X [] σ H s) (h0 : σ[0]? = some (some (V.ref x))) (hx : H x = some (exo x C none)) :
    _root_.PySem.wpAt (model X.prog X.w) X.A (.func body X.env) (exec (.Expr (.Call (.Attribute (.Call (.Name "super" p0) [] [] p1) "__init__" p2) [.Constant (.str txt) j p3] [] p4) p5) X.env) (fun fl s' => fl = .next ∧ Inv X [] σ H s') X.xe s := by
  have kin := I.kIn
  rw [hK] at kin
  obtain ⟨nm, q, N, bs, bm, sn, sub, ab, col, dd, k0, k1, k2, k3, k5, hC, hbm⟩ := T.cls
  obtain ⟨tx, hox⟩ := exo_at I.hok hx
  refine ks_wpAt_Expr_any ?_ hint hsw
  refine ks_wpAt_MethodCall ?_ he
  refine ks_wpAt_super_base hks hkc (by decide) hfu (kin _ _ lk) rfl hp hco (kin _ _ hcode) rfl hvs hfile htop ?_
  obtain ⟨mb, b1, b2⟩ := I.mod.blt
  refine PySem.W.ks_loadName_global I.ok.kind hks (PySem.Calls.loadGlobal_builtin (by rw [I.ok.glob]; exact I.mod.glob.keeps I.bk) hsuper (by rw [I.ok.blt]; exact b1.keeps I.bk) ((b2 "super" (by decide)).trans (by decide +kernel)) ⟨rfl, ?_⟩)
  refine wpAny_loadName_free I.ok.kind hkc hce ⟨_, kin _ _ hcell, rfl⟩ ?_
  obtain ⟨mm, hn, hl⟩ := I.loc
  obtain ⟨u, ru, lo⟩ := hl 0 "self" (V.ref x) hN h0 (.inl hsl)
  obtain rfl : u = Value.ref x := ru
  have hms : mm "self" = some (Value.ref x) := by
    rcases lo with ⟨_, z⟩ | ⟨z, _⟩
    · exact z
    · rw [hsl] at z
      rcases z with z | z <;> cases z
  rw [har]
  refine wpAny_loadName_local I.ok.kind hsl hn hms ?_
  obtain ⟨oD, hD1, hD2⟩ : ∃ oD, s.heap.get? C = some oD ∧ oD.data = .cls cd := by
    have hD := hcls
    unfold PySem.W.clsIn at hD
    split at hD
    · rename_i c d cd' sl ho
      cases hD
      exact ⟨_, kin _ _ ho, rfl⟩
    · cases hD
  obtain ⟨hh, g0, d0, t0, os0⟩ := s
  have J : PySem.W.InstAt hh x { cls := .ref C, dict := none, data := .fields #[.ref tx, .none, .none, .none, .bool false, .none] } C none := ⟨hox, rfl, rfl, trivial⟩
  refine ks_wpAny_isType_cls hD1 hD2 ⟨rfl, ?_⟩
  refine ks_wpAny_call_super hD1 hD2 J.at_ J.cls (fun c e => by cases e) (PySem.W.looks_subIn kin hsub) (fun h' e kk => ?_)
  have I1 : Inv X [] σ H ⟨h', g0, d0, t0, os0⟩ := I.kept (t' := t0) kk
  have kin1 := I1.kIn
  rw [hK] at kin1
  obtain ⟨tx1, hox1⟩ := exo_at I1.hok hx
  have J' : PySem.W.InstAt h' x { cls := .ref C, dict := none, data := .fields #[.ref tx1, .none, .none, .none, .bool false, .none] } C none := ⟨hox1, rfl, rfl, trivial⟩
  have hm' : PySem.W.alongIn K "__init__" ((cd.mro.dropWhile (· != .ref C)).drop 1) = some (some (.builtin "ValueError.__init__")) := by
    unfold PySem.W.ks_superIn at hm
    rw [hcls] at hm
    exact hm
  have hxC : x ≠ C := fun z => by
    rw [z] at hox1
    obtain ⟨oD', q1, q2⟩ : ∃ oD, h'.get? C = some oD ∧ oD.data = .cls cd := ⟨oD, kk _ _ hD1, hD2⟩
    rw [q1] at hox1
    cases hox1
    cases q2
  refine PySem.VEX.vx_get (l₀ := cd.mro) e (PySem.W.looks_opaque kin1 ho) (fun A Q E s k q => wpAny_bind ((PySem.W.looks_clsIn kin1 hcls) A _ E s k (wpAny_pure q))) rfl kin1 hm' hxC (by decide) (J'.type.andThen (PySem.W.looks_subIn kin1 hsv)) ?_
  have I2 : Inv X [(h'.objs.size, PySem.VEX.vw x)] σ H ⟨h'.push (PySem.VEX.vw x), g0, d0, t0 + 1, os0⟩ := ClX.pin_new (t' := t0 + 1) I1 (fun _ _ z => Heap.get?_push_of_some _ z) (Nat.le_refl _) (Heap.get?_push_size h' rfl) (fun v z => nomatch z)
  refine PySem.VEX.vx_bound (first := []) (e := x) ?_ hse rfl
  have pa : PA X [.Constant (.str txt) j p3] (fun σ H Q => Q [V.str txt] H) := pa_cons pe_str pa_nil hse
  refine thn (pa.run p4 [(h'.objs.size, PySem.VEX.vw x)] _ σ H (fun vs H' => vs = [V.str txt] ∧ H' = H) I2 ⟨rfl, rfl⟩) fun us s3 ⟨vs, H3, I3, rv, e1, e2⟩ => ?_
  subst e1 e2
  refine ⟨ClX.pin_at I3, ?_⟩
  have kin3 := I3.kIn
  rw [hK] at kin3
  obtain ⟨tx3, hox3⟩ := exo_at I3.hok hx
  obtain ⟨h3, g3, d3, t3, os3⟩ := s3
  refine PySem.VEX.vx_call hbm (kin3 _ _ hC) hox3 (ClX.pin_at I3) (by rw [List.nil_append, ← Paired.length rv]; rw [sizeLine_eq]; exact Nat.le_of_ble_eq_true rfl) (fun h4 t4 kp hx4 => ?_)
  have I4 := I3.write (t' := t3) (x := x) (e := x) (o := exo x C none) (by rw [hx]; exact True.intro) (.inl rfl) kp ⟨_, hx4⟩ (exo_ok hx4)
  have eu : upd H3 x (exo x C none) = H3 := by
    funext b
    by_cases hb : b = x
    · rw [hb, upd_same, hx]
    · rw [upd_ne hb]
  rw [eu] at I4
  exact ⟨rfl, ClX.unpin I4⟩
end
/-- what of the program an exception's class asks: its own __init__ closes over it -/
structure DmE (K : PySem.W.Frag) (mg : Str → Option Value) (C : Addr) (qual : Str) (st : Stmt) where
  f : Addr
  cc : Addr
  cda : Addr
  file : Str
  fd : FuncData
  dt : ∃ (oc cl ccl doc pm ct dV kV : Value) (od cld cdd an : Option Addr) (osl csl ccs : Array (Option Value)) (vs : Array Value) (tf : Tok) (cd : ClassData),
    fd = PySem.W.fnX "__init__" qual (defArgs st) (defBody st) (defScope st) [("__class__", cc)] dV kV doc pm an (.ref cda) ct ∧
    K.lookup f = some ⟨oc, od, .func fd, osl⟩ ∧ K.lookup cda = some ⟨ccl, cdd, .fields vs, ccs⟩ ∧ vs[2]? = some (.str file tf) ∧
    K.lookup cc = some ⟨cl, cld, .cell (some (.ref C)), csl⟩ ∧ PySem.W.clsIn K C = some cd
  hcd : PySem.W.codeIn K (.ref cda) qual = true
  oex : OexC K C
  hsub : PySem.W.subIn K (.ref C) (.ref C) = some true
  hsv : PySem.W.subIn K (.ref C) (.type "ValueError") = some true
  hsuper : mg "super" = none
  hm : PySem.W.ks_superIn K C C "__init__" = some (some (.builtin "ValueError.__init__"))
  ho : PySem.W.nsIn K PySem.cStatics "thirdparty.any" = some none
  hno : PySem.W.findIn K (.ref C) "value" = some none
  hi : PySem.W.findIn K (.ref C) "__init__" = some (some (.ref f))
  tI : PySem.W.typeIn K (.ref f) = some (.type "function")
  hb : ∀ a b : Value, bindArgs fd ⟨[a, b], []⟩ = pure [(("self" : Str), a), ("value", b)]
section
variable {P : Program} {w : World} {mg : Str → Option Value} {base : Heap} {K : PySem.W.Frag} {k : Nat} {C : Addr} {qual : Str} {st : Stmt} {p0 p1 p2 p3 p4 p5 p6 p7 p8 p9 : Pos} {j : Nat} {txt : Str}
theorem in_exc (T : DmE K mg C qual st) (SP : SupP P T.file) (S : NScope [("self" : Str), "value", "__class__"] [("self" : Str), "value"] [("__class__" : Str)] (defScope st))
    (hs2 : (defScope st).names.lookup ("super" : Str) = some .globalImplicit) (hsc : (defScope st).names.lookup ("__class__" : Str) = some .free) (hp : ((defArgs st).posonlyargs ++ (defArgs st).args).head?.map (·.arg) = some "self")
    (hbody : defBody st = [.Expr (.Call (.Attribute (.Call (.Name "super" p0) [] [] p1) "__init__" p2) [.Constant (.str txt) j p3] [] p4) p5, .Assign [.Attribute (.Name "self" p6) "value" p7] (.Name "value" p9) p8])
    (h : ∀ (A : Around) (out : List PySem.Env) (s : Shared) (H : Hp) (E : XK),
      swapsWith (.Call (.Attribute (.Call (.Name "super" p0) [] [] p1) "__init__" p2) [.Constant (.str txt) j p3] [] p4) none p5.line (ncx CX0 P w K mg base [("self" : Str), "value", "__class__"] (fnOfS "__init__" qual st T.cc T.cda) T.f A out s H E).env = pure false ∧
      swapsWith (.Name "value" p9) (some (.Attribute (.Name "self" p6) "value" p7)) p8.line (ncx CX0 P w K mg base [("self" : Str), "value", "__class__"] (fnOfS "__init__" qual st T.cc T.cda) T.f A out s H E).env = pure false ∧
      (∃ pl, eval (.Call (.Attribute (.Call (.Name "super" p0) [] [] p1) "__init__" p2) [.Constant (.str txt) j p3] [] p4) (ncx CX0 P w K mg base [("self" : Str), "value", "__class__"] (fnOfS "__init__" qual st T.cc T.cda) T.f A out s H E).env = (do
        let ov ← attributeBase (.Call (.Name "super" p0) [] [] p1) "__init__" (ncx CX0 P w K mg base [("self" : Str), "value", "__class__"] (fnOfS "__init__" qual st T.cc T.cda) T.f A out s H E).env (eval (.Call (.Name "super" p0) [] [] p1) (ncx CX0 P w K mg base [("self" : Str), "value", "__class__"] (fnOfS "__init__" qual st T.cc T.cda) T.f A out s H E).env)
        standAt p2.atName
        let (f9, first) ← holding [ov] (getMethod ov "__init__" pl)
        callWith p4 f9 first (backTo p4 (starEach [.Constant (.str txt) j p3] (ncx CX0 P w K mg base [("self" : Str), "value", "__class__"] (fnOfS "__init__" qual st T.cc T.cda) T.f A out s H E).env)) []))) :
    FnP P w K mg base CX0 1 T.f (spXI C "value") := by
  obtain ⟨oc, cl, ccl, doc, pm, ct, dV, kV, od, cld, cdd, an, osl, csl, ccs, vs, tf, cd, h1, h2, h3, h4, h5, h6⟩ := T.dt
  have hb := T.hb
  rw [h1] at h2 hb
  intro A outer s H us vs' Q E hg hr e0 rv ⟨x, v1, ev, hx, p⟩
  subst ev
  obtain ⟨u0, us1, rfl, ru0, r1⟩ : ∃ u0 us1, us = u0 :: us1 ∧ RelV (V.ref x) u0 ∧ Vals [v1] us1 := by
    cases rv with
    | cons a b => exact ⟨_, _, rfl, a, b⟩
  obtain rfl : u0 = Value.ref x := ru0
  obtain ⟨u1, rfl, ru1⟩ := vals1 r1
  have KX : K.In s.heap := e0.mod.kin.keeps fun b o e => (e0.bs b o e).1
  have lim : s.heap.NoLimit := e0.mod.nolimit.keeps fun b o e => (e0.bs b o e).1
  have hcc : s.heap.get? T.cc = some _ := KX _ _ h5
  have Cc : CellsAt (fnOfS "__init__" qual st T.cc T.cda).cl ["__class__"] [none] s.heap H := by
    refine ⟨rfl, fun y c e => ?_, fun y z c e1 e2 => ?_, fun i y hi => ?_⟩
    · have e : List.lookup y [(("__class__" : Str), T.cc)] = some c := e
      simp only [List.lookup] at e
      split at e
      · cases e
        refine ⟨?_, _, ⟨_, hcc, rfl⟩⟩
        have q := e0.mod.kin _ _ h5
        exact (e0.bs _ _ q).2
      · cases e
    · have e1 : List.lookup y [(("__class__" : Str), T.cc)] = some c := e1
      have e2 : List.lookup z [(("__class__" : Str), T.cc)] = some c := e2
      simp only [List.lookup] at e1 e2
      split at e1
      · split at e2
        · rename_i h1 _ h2
          rw [beq_iff_eq.mp h1, beq_iff_eq.mp h2]
        · cases e2
      · cases e1
    · match i, hi with
      | 0, hi =>
        cases hi
        exact ⟨T.cc, by show List.lookup _ [(("__class__" : Str), T.cc)] = _; simp [List.lookup], fun v z => by cases z⟩
      | i + 1, hi => simp at hi
  have r2 : Vals [V.ref x, v1] [Value.ref x, u1] := .cons rfl (.cons ru1 .nil)
  have hpar : ∀ y ∈ [(("self" : Str), Value.ref x), ("value", u1)], (defScope st).names.lookup y.1 = some .local := fun y hy => by
    refine S.par y.1 ?_
    simp at hy
    rcases hy with rfl | rfl
    · simp
    · simp
  refine PySem.ks_codeAny_call_defAt (fd := PySem.W.fnX "__init__" qual (defArgs st) (defBody st) (defScope st) [("__class__", T.cc)] dV kV doc pm an (.ref T.cda) ct) (body := defBody st) (binds := [(("self" : Str), Value.ref x), ("value", u1)]) hr.depth (KX _ _ h2) rfl lim (PySem.W.codeRec_of KX T.hcd) rfl
    (BindsTo.of_eq (hb _ _)) S.nocell hpar (fun h₁ hns hk => ?_) S.co S.gen S.kind
  have I : Inv (ncx CX0 P w K mg base [("self" : Str), "value", "__class__"] (fnOfS "__init__" qual st T.cc T.cda) T.f A outer s H E) [] (startF [("self" : Str), "value", "__class__"] [V.ref x, v1] [none]) H { s with heap := h₁, toks := s.toks + 2 } := inv_startN S hr.hd e0 rfl r2 Cc hns hk
  obtain ⟨d2', d3, pl, d4⟩ := h A outer s H E
  show _root_.PySem.wpAt (model P w) (ncx CX0 P w K mg base [("self" : Str), "value", "__class__"] (fnOfS "__init__" qual st T.cc T.cda) T.f A outer s H E).A (.func (defBody st) (ncx CX0 P w K mg base [("self" : Str), "value", "__class__"] (fnOfS "__init__" qual st T.cc T.cda) T.f A outer s H E).env) (execs (defBody st) (ncx CX0 P w K mg base [("self" : Str), "value", "__class__"] (fnOfS "__init__" qual st T.cc T.cda) T.f A outer s H E).env)
    (fun fl s' => CE outer P w H s Q (match fl with | .ret v => v | _ => .none) s') (ncx CX0 P w K mg base [("self" : Str), "value", "__class__"] (fnOfS "__init__" qual st T.cc T.cda) T.f A outer s H E).xe { s with heap := h₁, toks := s.toks + 2 }
  rw [hbody]
  have hself : (ncx CX0 P w K mg base [("self" : Str), "value", "__class__"] (fnOfS "__init__" qual st T.cc T.cda) T.f A outer s H E).env.kindOf "self" = some .local := S.par "self" (by simp)
  have hval : (ncx CX0 P w K mg base [("self" : Str), "value", "__class__"] (fnOfS "__init__" qual st T.cc T.cda) T.f A outer s H E).env.kindOf "value" = some .local := S.par "value" (by simp)
  obtain ⟨ar, hp1, hp2⟩ := Option.map_eq_some_iff.mp hp
  have hint : interactive (ncx CX0 P w K mg base [("self" : Str), "value", "__class__"] (fnOfS "__init__" qual st T.cc T.cda) T.f A outer s H E).env = false := by
    show interactive (envF (fnOfS "__init__" qual st T.cc T.cda) T.f s.heap.objs.size) = false
    have hk : (envF (fnOfS "__init__" qual st T.cc T.cda) T.f s.heap.objs.size).scope.kind = .function := S.kind
    unfold interactive
    rw [hk]
    rfl
  refine ks_wpAt_execs_cons (ks_wpAt_mono (ex_vsuper (X := ncx CX0 P w K mg base [("self" : Str), "value", "__class__"] (fnOfS "__init__" qual st T.cc T.cda) T.f A outer s H E) (x := x) (σ := startF [("self" : Str), "value", "__class__"] [V.ref x, v1] [none]) (s := { s with heap := h₁, toks := s.toks + 2 }) rfl T.oex h2 hp1 hp2 h3 h4 SP.fl SP.tp h5 h6 T.hsub T.hsv T.hsuper T.hm T.ho hs2 hsc
    (by show List.lookup _ [(("__class__" : Str), T.cc)] = _; simp [List.lookup]) rfl rfl hint rfl hself d2' d4 rfl I rfl hx) (fun fl s1 hz => ?_) fun _ _ z => z)
  obtain ⟨rfl, I1⟩ := hz
  dsimp only
  have ps := pss_one (ps_ost (X := ncx CX0 P w K mg base [("self" : Str), "value", "__class__"] (fnOfS "__init__" qual st T.cc T.cda) T.f A outer s H E) (f := "value") (pe_var (i := 0) (x := "self") rfl (.inl hself)) (pe_var (i := 1) (x := "value") rfl (.inl hval)) d3)
  refine wpAt_of_wpAny (wpAny_mono (ps.run [] s1 _ _ { nx := fun _ H' => Q .non H', rt := Q } I1 ?_) (fun fl s' hs => ?_) fun _ _ z => z)
  · exact ⟨v1, rfl, V.ref x, rfl, x, C, rfl, T.oex, T.hno, .inl ⟨hx, fun dx n ne => p dx n ne⟩⟩
  have fin : ∀ {σ' : L2.St} {H' : Hp} {v : V} {u : Value}, Inv (ncx CX0 P w K mg base [("self" : Str), "value", "__class__"] (fnOfS "__init__" qual st T.cc T.cda) T.f A outer s H E) [] σ' H' s' → L2.RelV v u → Q v H' → CE outer P w H s Q u s' :=
    fun {σ' H' v u} J rv q => ⟨v, H', J.os, J.bare, J.base, J.hok, rv, q⟩
  cases fl with
  | ret u =>
    obtain ⟨v, σ', H', J, rv, q⟩ := hs
    exact fin J rv q
  | next =>
    obtain ⟨σ', H', J, q⟩ := hs
    exact fin (v := V.non) (u := Value.none) J rfl q
  | brk => obtain ⟨_, _, _, q⟩ := hs; exact q.elim
  | cont => obtain ⟨_, _, _, q⟩ := hs; exact q.elim
end
end Ev

/-! Ev53: raise C(value); defs that let exceptions out. -/
namespace Ev
open PySem PySem.Spec PyProof.Rows L2 NdefX
section
variable {X : Cx} {W : Wd} {E : XK} {x : Str} {C fI : Addr} {k : Nat} {e : Expr} {me : M D} {p pos : Pos} {pins : List (Addr × Obj)} {σ : L2.St} {H : Hp} {s : Shared}
/-- C(value): a new exception -/
theorem pmk_exc {t : TE} (T : OexC X.K C) (iC : PySem.W.findIn X.K (.ref C) "__init__" = some (some (.ref fI))) (tI : PySem.W.typeIn X.K (.ref fI) = some (.type "function"))
    (F1 : FnP X.prog X.w X.K X.mg X.base CX0 k fI (spXI C "value")) (hG : X.A.guards = some []) (hr : Room (k + 1) X.A) (hg : Gl X x) (hm : X.mg x = some (.ref C)) (ha : PE X e t)
    (hdb : (x == ("__debug__" : Str)) = false := by decide) (he : starEach [e] X.env = (false, eval e X.env) :: starEach [] X.env := by rfl) :
    PMk X (.Call (.Name x p) [e] [] pos) (fun σ H Q => t σ H fun v H1 => ∀ dx, H1 dx = none → Q (.ref C) (some dx) (upd H1 dx (.xd [("value", v)]))) := by
  intro pins s σ H Q I h
  obtain ⟨nm, q, N, bs, bm, sn, sub, ab, col, dd, k0, k1, k2, k3, k5, hC, hbm⟩ := T.cls
  refine wpAny_Call_Name_kw (ld_glob I hg hm ?_ hdb)
  have pa : PA X [e] (fun σ H Q => t σ H fun v H1 => Q [v] H1) := pa_cons ha pa_nil he
  refine PySem.W.callWith_K (h₀ := X.base) I.ok.mod.kin T.kC (thn (pa.run pos pins s σ H (fun vs H1 => ∃ v, vs = [v] ∧ ∀ dx, H1 dx = none → Q (.ref C) (some dx) (upd H1 dx (.xd [("value", v)]))) I ?_) fun us s1 ⟨vs, H1, I1, r1, v, ev, q1⟩ => ⟨I1.kIn, ?_⟩) he rfl
  · have w := ha.run pins s σ H (fun v H1 => ∀ dx, H1 dx = none → Q (.ref C) (some dx) (upd H1 dx (.xd [("value", v)]))) I
    exact (show t σ H _ from by
      refine (?_ : t σ H _)
      exact cast (by
        congr 1
        funext v H1
        exact propext ⟨fun z => ⟨v, rfl, z⟩, fun ⟨v', e', z⟩ => by cases e'; exact z⟩) h)
  subst ev
  show wpAny _ _ (call (.ref C) us) _ _ _
  obtain ⟨u1, rfl, ru⟩ := vals1 r1
  obtain ⟨hp, g, dr, tk, os⟩ := s1
  have sz : hp.objs.size ≤ hp.objs.size + 1 := Nat.le_succ _
  have hn : H1 (hp.objs.size + 1) = none := I1.hok.fresh sz
  have kk : ∀ b o, hp.get? b = some o → ((hp.push (PySem.W.kdv_tup [u1])).push (PySem.HandSPX.excO C hp.objs.size)).get? b = some o := fun b o e => Heap.get?_push_of_some _ (Heap.get?_push_of_some _ e)
  have hget : ((hp.push (PySem.W.kdv_tup [u1])).push (PySem.HandSPX.excO C hp.objs.size)).get? (hp.objs.size + 1) = some (PySem.HandSPX.excO C hp.objs.size) := by heap_get
  have I2 : Inv X pins σ (upd H1 (hp.objs.size + 1) (exo (hp.objs.size + 1) C none)) ⟨(hp.push (PySem.W.kdv_tup [u1])).push (PySem.HandSPX.excO C hp.objs.size), g, dr, tk, os⟩ :=
    I1.laid (t' := tk) (a := hp.objs.size + 1) (o := exo (hp.objs.size + 1) C none) (h' := (hp.push (PySem.W.kdv_tup [u1])).push (PySem.HandSPX.excO C hp.objs.size)) kk sz (exo_ok hget)
  have r2 : Vals [V.ref (hp.objs.size + 1), v] [Value.ref (hp.objs.size + 1), u1] := .cons rfl (.cons ru .nil)
  have hq : spXI C "value" [V.ref (hp.objs.size + 1), v] (upd H1 (hp.objs.size + 1) (exo (hp.objs.size + 1) C none)) (fun w H2 => w = .non ∧ ∃ (d : Addr) (fs : List (Str × V)), H2 (hp.objs.size + 1) = some (exo (hp.objs.size + 1) C (some d)) ∧ H2 d = some (exd d fs) ∧ H1 d = none ∧ Q (.ref C) (some d) (upd (del H2 (hp.objs.size + 1)) d (.xd fs))) (fun _ _ _ => False) := by
    refine ⟨_, v, rfl, upd_same, fun dx n ne => ⟨rfl, dx, [("value", v)], upd_same, by rw [upd_ne ne, upd_same], ?_, ?_⟩⟩
    · rw [upd_ne ne] at n; exact n
    · rw [upd_ne ne] at n
      have e2 : upd (del (upd (upd (upd H1 (hp.objs.size + 1) (exo (hp.objs.size + 1) C none)) dx (exd dx [("value", v)])) (hp.objs.size + 1) (exo (hp.objs.size + 1) C (some dx))) (hp.objs.size + 1)) dx (.xd [("value", v)]) = upd H1 dx (.xd [("value", v)]) := by
        funext b
        by_cases h1 : b = dx
        · rw [h1, upd_same, upd_same]
        · rw [upd_ne h1, upd_ne h1]
          by_cases h2 : b = hp.objs.size + 1
          · rw [h2, del_same, hn]
          · rw [del_ne h2, upd_ne h2, upd_ne h1, upd_ne h2]
      rw [e2]
      exact q1 dx n
  refine wpAny_call (PySem.HandSPX.call_own F.excBase_ValueError (fun Y => PySem.HandSPX.refsVE_contains Y bm hbm) (I1.kIn _ _ hC) (PySem.W.looks_findIn I1.kIn iC) (fun self => PySem.W.bind_fn I1.kIn self tI) (by rw [sizeLine_eq]; exact Nat.le_of_ble_eq_true rfl)
    (codeAny_mono (F1 _ X.stack _ _ [Value.ref (hp.objs.size + 1), u1] [V.ref (hp.objs.size + 1), v] _ (fun _ _ _ => False) hG (hr.make C [u1] []) (I2.env0.make C [u1] []) r2 hq) fun r s' hq' => ?_))
  cases r with
  | error er => exact hq'.elim
  | ok fl =>
    cases fl with
    | ret u =>
      obtain ⟨w, H2, os2, bare2, un2, hok2, rv, ev, d, fs, ea, ed, hd1, q2⟩ := hq'
      subst ev
      obtain ⟨h2, g2, d2, t2, os'⟩ := s'
      exact ⟨rv, mk_end (raises_own T.exC T.tyC) I1 sz kk un2 hok2 os2 bare2 ea ed hd1 q2⟩
    | next => exact hq'.elim
    | brk => exact hq'.elim
    | cont => exact hq'.elim
/-- raise C(value) -/
def raiseS (c : Nat) (m : M D) : MS := fun e g => (m e g).toS fun d g1 => .ex c d g1
theorem es_raise {c : Nat} (T : OexC X.K (W.ec c)) (iC : PySem.W.findIn X.K (.ref (W.ec c)) "__init__" = some (some (.ref fI))) (tI : PySem.W.typeIn X.K (.ref fI) = some (.type "function"))
    (F1 : FnP X.prog X.w X.K X.mg X.base CX0 k fI (spXI (W.ec c) "value")) (hG : X.A.guards = some []) (hr : Room (k + 1) X.A) (hg : Gl X x) (hm : X.mg x = some (.ref (W.ec c))) (hc : X.calm = true) (tk : Takes X (fun cls d _ H => E cls d H)) (ha : PE X e (tM W E me))
    {p2 : Pos} (hdb : (x == ("__debug__" : Str)) = false := by decide) (he : starEach [e] X.env = (false, eval e X.env) :: starEach [] X.env := by rfl) : PS X (.Raise (some (.Call (.Name x p) [e] [] pos)) none p2) (tMS W E (raiseS c me)) :=
  weakS (ps_raise hc tk (pmk_exc T iC tI F1 hG hr hg hm ha hdb he)) fun D0 σ H ⟨F, en, g, S, p⟩ => by
    unfold raiseS at p
    refine ⟨F, en, g, S, (p.toS).mono fun d g1 F1 H1 x1 c1 p1 v rv dx n => ?_⟩
    exact p1 F1 (upd H1 dx (.xd [("value", v)])) dx v (Xe.new n).xs (c1.new n).base ((rv.up (Xe.new n).up).up Up.base) (Xd.up Up.base ⟨upd_same, c1.none n⟩)
end
/-- what a callee lets out, in a def that lets it out -/
theorem passX {X : Cx} {E : XK} (tk : Takes X (fun cls d _ H => E cls d H)) : Passes (L2.CX X.prog X.w) X E := passes_call tk fun _ _ _ _ h => h
end Ev

/-! Ev54: calls of defs that may raise, where they do not; try .. except .. as error, the error held in a name. -/
namespace Ev
open PySem PySem.Spec PyProof.Rows L2 NdefX
/-- no exception comes -/
def noM {α : Type} (m : M α) : M α := fun e g => (m e g).noex
abbrev FE : XK := fun _ _ _ => False
theorem post_FE {α : Type} {W : Wd} {E : XK} {F : Fb} {H : Hp} {r : R α} {K : α → List Cell → Fb → Hp → Prop} (p : Post W E F H r.noex K) : Post W FE F H r K := by
  cases r with
  | ok a g => exact p
  | ex c d g => exact p.elim
  | bad => exact p.elim
theorem ev_no {W : Wd} {E : XK} {X : Cx} {e : Expr} {m : M D} (h : PE X e (tM W FE m)) : PE X e (tM W E (noM m)) := weakE h fun σ H Q ⟨F, en, g, S, p⟩ => ⟨F, en, g, S, post_FE p⟩
/-- what a callee lets out: nothing -/
theorem passN {X : Cx} : Passes (L2.CX X.prog X.w) X FE := fun _ _ _ _ _ _ _ c => by
  obtain ⟨_, _, _, _, _, _, _, _, _, _, _, _, h⟩ := c
  exact h.elim
/-! ### the object of a caught exception stays -/
theorem exv_ok {P : Program} {w : World} {H : Hp} {h : Heap} {a C d : Addr} {oe : Obj} {vs : Array Value} (he : h.get? a = some oe) (h1 : oe.cls = .ref C) (h2 : oe.dict = some d) (h3 : oe.data = .fields vs) : ObjOk P w H h a (exv a C d) :=
  ⟨⟨oe, vs, he, h1, h2, h3⟩, ⟨_, he⟩, fun x1 x2 z k => by
    obtain ⟨oe, vs, q, r⟩ := z
    exact ⟨oe, vs, k _ q, r⟩⟩
section
variable {X : Cx} {pins : List (Addr × Obj)} {σ : L2.St} {H : Hp} {s : Shared} {a : Addr} {o : Obj} {u : HO}
/-- what was pinned is tracked from now on -/
theorem inv_hold (I : Inv X ((a, o) :: pins) σ H s) (hn : X.s_0.heap.get? a = none) (hp : ∀ p ∈ X.pn ++ pins, p.1 ≠ a) (ok : ObjOk X.prog X.w (upd H a u) s.heap a u) : Inv X pins σ (upd H a u) s := by
  obtain ⟨p1, p2, p3, p4, p5⟩ := I.pin (a, o) (List.mem_append_right _ List.mem_cons_self)
  have ne0 : ∀ {b : Addr} {q : Obj}, X.s_0.heap.get? b = some q → b ≠ a := fun {b q} e z => by
    rw [z, hn] at e
    cases e
  have neH : ∀ {b : Addr} {q : HO}, H b = some q → b ≠ a := fun {b q} e z => by
    rw [z] at e
    rw [show H a = none from p2] at e
    cases e
  refine ⟨I.ok, I.os, I.bare, ⟨I.base.keep, I.base.slot, fun b q e n hx => ?_, I.base.there, fun b xs e => ?_, fun b q v e => ?_, fun b ps e => ?_⟩, I.loc, I.cell, ?_, fun x c e => ?_, fun p hpp => ?_, fun b q e => ?_, I.len⟩
  · rw [upd_ne (ne0 e)]
    exact I.base.free b q e n hx
  · have z := I.base.tups b xs e
    rw [upd_ne (neH z)]
    exact z
  · have z := I.base.frzs b q v e
    rw [upd_ne (neH z)]
    exact z
  · obtain ⟨more, z⟩ := I.base.tbls b ps e
    exact ⟨more, by rw [upd_ne (neH z)]; exact z⟩
  · rw [upd_ne (fun z => p3 z.symm)]
    exact I.free
  · rw [upd_ne fun z => ?_]
    · exact I.freeC x c e
    · obtain ⟨v, oc, hoc, hd⟩ := I.cell x c e
      rw [z, show s.heap.get? a = some o from p1] at hoc
      cases hoc
      exact p5 v hd
  · obtain ⟨q1, q2, q3, q4, q5⟩ := I.pin p (by
      rcases List.mem_append.mp hpp with z | z
      · exact List.mem_append_left _ z
      · exact List.mem_append_right _ (List.mem_cons_of_mem _ z))
    exact ⟨q1, by rw [upd_ne (hp p hpp)]; exact q2, q3, q4, q5⟩
  · by_cases hb : b = a
    · subst hb
      rw [upd_same] at e
      cases e
      exact ok
    · rw [upd_ne hb] at e
      exact (I.hok b q e).stay (fun _ _ _ z => z) (fun c z => by rw [upd_ne (neH z)]; exact z) fun c xs z => by rw [upd_ne (neH z)]; exact z
theorem unsuiteP {q : Addr × Obj} {pn' : List (Addr × Obj)} (I : Inv (X.suite a (q :: (X.pn ++ pins))) pn' σ H s) (ok : X.Ok) : Inv X (q :: pins) σ H s :=
  ⟨ok, I.os, I.bare, I.base, I.loc, I.cell, I.free, I.freeC, fun p hp => I.pin p (List.mem_append_left _ (by
    rcases List.mem_append.mp hp with z | z
    · exact List.mem_cons_of_mem _ (List.mem_append_left _ z)
    · rcases List.mem_cons.mp z with z | z
      · rw [z]; exact List.mem_cons_self
      · exact List.mem_cons_of_mem _ (List.mem_append_right _ z))), I.hok, I.len⟩
end
/-- what the clause wishes: slot i is the error's name, slot j holds it from then on -/
def wHold (K : PySem.W.Frag) (cv : Value) (i j : Nat) (D : Ends) : WX := fun cls d σ H => ∃ C dx : Addr, cls = .ref C ∧ d = some dx ∧ PySem.W.exmOne K cls cv = some true ∧
  ∀ a, H a = none → D.nx (((σ.set i (some (.ref a))).set j (some (.ref a))).set i none) (upd H a (exv a C dx))
section
variable {X : Cx} {x n y : Str} {c : Value} {i j : Nat} {body : List Stmt} {np yp vp ap pos pos' : Pos} {tb : WX → TS}
theorem ps_try_hold (hs : X.stack = X.env :: X.outer) (hf : X.env.frame = some X.env.locals) (hex : X.ex = []) (hN : X.N.Nodup) (hi : X.N[i]? = some n) (hln : X.env.kindOf n = some .local) (hj : X.N[j]? = some y) (hly : X.env.kindOf y = some .local) (hc : Names X x c)
    (hb : ∀ (W : WX) (pn : List (Addr × Obj)) (xe : Value → Shared → Prop), Takes (X.tr pn xe) W → PSs (X.tr pn xe) body (tb W))
    (hdn : (n == ("__debug__" : Str)) = false := by decide) (hcn : (n == ("__classdict__" : Str)) = false := by decide) (hsw : swapsWith (.Name n vp) (some (.Name y yp)) ap.line X.env = pure false := by rfl) :
    PS X (.Try body [.ExceptHandler (some (.Name x np)) (some n) [.Assign [.Name y yp] (.Name n vp) ap] pos'] [] [] pos) (fun D σ H => tb (wHold X.K c i j D) D σ H) := by
  refine ⟨fun pins s σ H D I h => ?_⟩
  have ok := I.ok
  have frm : X.A.frames = some (X.env :: X.outer) := by rw [ok.frames, hs]
  refine wpAny_Try_except ?_
  refine wpAny_mono ((hb (wHold X.K c i j D) (X.pn ++ pins) (fun e s₁ => wpAny (model X.prog X.w) X.A (noteFrame e X.env) (fun _ s₂ => wpAny (model X.prog X.w) X.A (setFlight e none) (fun _ s₃ =>
    wpAny (model X.prog X.w) X.A (handleBy e X.env [.ExceptHandler (some (.Name x np)) (some n) [.Assign [.Name y yp] (.Name n vp) ap] pos']) (SP X pins D) X.xe s₃) X.xe s₂) X.xe s₁) fun u s' air => ?_).run [] s σ H D (I.toTry _) h) (fun f s1 hsp => ?_) (fun e s1 he => he)
  · obtain ⟨a, B, sI, pins', σ', H', cls, d, rfl, J', nb, up, sky, na, os, ag, C, dx, rfl, rfl, hb1, q⟩ := air
    have J : Inv X pins σ' H' sI := J'.ofTry ok
    have sky2 : Sky B (X.env :: X.outer) a (Zc (.ref C) (some dx)) X.env.locals s'.heap := by rw [← hs]; exact sky
    show wpAny (model X.prog X.w) X.A (noteFrame (.ref a) X.env) _ _ _
    refine Sky.land Zc.steady frm hf sky2 fun h3 fl3 up3 => ?_
    have J3 : Inv X pins σ' H' { s' with heap := h3 } := J.landed nb fl3.1 (up.trans up3) os ag
    obtain ⟨oe3, vs3, he3, hz3, hd3⟩ := fl3.there
    have nfr : a ∉ frs (X.env :: X.outer) := fun hm => by
      obtain ⟨_, o', e', hnf⟩ := fl3.2.2.1.mem hm
      rw [he3] at e'
      cases e'
      exact hnf _ hd3
    have nB : B.get? a = none := fl3.2.1
    have nL : a ≠ X.env.locals := fun z => nfr (List.mem_filterMap.mpr ⟨X.env, List.mem_cons_self, by rw [hf, z]⟩)
    have nF : a ∉ X.fs := fun hm => by
      obtain ⟨e, he, q⟩ := List.mem_filterMap.mp hm
      exact nfr (List.mem_filterMap.mpr ⟨e, List.mem_cons_of_mem _ he, q⟩)
    have nI : sI.heap.get? a = none := by
      cases z : sI.heap.get? a with
      | none => rfl
      | some o =>
        have w := nb a o z (by rw [hs]; exact nfr)
        rw [nB] at w
        cases w
    have n0 : X.s_0.heap.get? a = none := by
      cases z : X.s_0.heap.get? a with
      | none => rfl
      | some o =>
        obtain ⟨o', w⟩ := J.base.there a o z (by rw [hex]; exact fun q => by cases q)
        rw [nI] at w
        cases w
    have np' : ∀ p ∈ X.pn ++ pins, p.1 ≠ a := fun p hp z => by
      have w := (J.pin p hp).1
      rw [z, nI] at w
      cases w
    have S3 := J3.suite he3 hd3 na nL nF
    refine wpAny_handleBy_cons (codeAny_handlers_test ?_) (by intro q; cases q)
    have LT : PySem.W.Looks (model X.prog X.w) h3 (typeOf (.ref a)) (.ref C) := fun A Q E s k q => wpAny_typeOf_ref (k _ _ he3) (by rw [hz3.1]; exact q)
    have LM := PySem.W.exm_one (M := model X.prog X.w) (J3.kIn) LT hb1
    have test : ∀ {Q : Value → Shared → Prop} {E : Value → Shared → Prop}, Q c { s' with heap := h3 } → wpAny (model X.prog X.w) (X.A.mark (some (.ref a))) (eval (.Name x np) X.env) Q E { s' with heap := h3 } := fun {Q E} q => by
      obtain ⟨hg, hdbg, hm | ⟨hm, hv, hnn⟩⟩ := hc
      · exact ld_glob (X := X.suite a ((a, oe3) :: (X.pn ++ pins))) S3 hg hm q hdbg
      · exact ld_blt (X := X.suite a ((a, oe3) :: (X.pn ++ pins))) S3 hg hm hv q hnn hdbg
    refine test (LM.here ?_)
    refine codeAny_handlers_suite_as ?_
    refine HandSPX.lands_againZ fl3 fun h4 fl4 up4 => ?_
    have J4 : Inv X pins σ' H' { s' with heap := h4 } := J.landed nb fl4.1 ((up.trans up3).trans up4) os ag
    obtain ⟨oe4, vs4, he4, hz4, hd4⟩ := fl4.there
    have S4 := J4.suite he4 hd4 na nL nF
    refine store_ok (X := X.suite a ((a, oe4) :: (X.pn ++ pins))) (v := .ref a) S4 hN hi (.inl hln) rfl (fun s5 S5 => ?_) (.inr hln)
    have hlt : i < σ'.length := by rw [J.len]; exact (List.getElem?_eq_some_iff.mp hi).1
    have su : PSs (X.suite a ((a, oe4) :: (X.pn ++ pins))) [.Assign [.Name y yp] (.Name n vp) ap] (tAsg (tVar i) (gName j)) :=
      pss_one (ps_set (X := X.suite a ((a, oe4) :: (X.pn ++ pins))) hN hj (.inl hly) (pe_var (X := X.suite a ((a, oe4) :: (X.pn ++ pins))) hi (.inl hln) hdn hcn) hsw (.inr hly))
    refine wpAny_mono (su.run [] s5 (σ'.set i (some (.ref a))) H' { nx := fun σ6 H6 => σ6 = (σ'.set i (some (.ref a))).set j (some (.ref a)) ∧ H6 = H', rt := fun _ _ => False, bk := fun _ _ => False, ct := fun _ _ => False } S5 ⟨.ref a, by rw [List.getElem?_set_self hlt], rfl, rfl⟩) (fun f s6 hsp => ?_) (fun _ _ z => False.elim z)
    cases f with
    | next =>
      obtain ⟨σ6, H6, S6, e6, eH⟩ := hsp
      subst e6
      subst eH
      have S6' : Inv X ((a, oe4) :: pins) ((σ'.set i (some (.ref a))).set j (some (.ref a))) H6 s6 := unsuiteP S6 ok
      refine gone_ok S6' hN hi hln fun s7 J7 => ?_
      have he7 := ClX.pin_at J7
      exact ⟨_, _, inv_hold J7 n0 np' (exv_ok (oe := oe4) he7 hz4.1 hz4.2 hd4), q a na⟩
    | brk => obtain ⟨_, _, _, z⟩ := hsp; exact z.elim
    | cont => obtain ⟨_, _, _, z⟩ := hsp; exact z.elim
    | ret u => obtain ⟨_, _, _, _, _, z⟩ := hsp; exact z.elim
  · cases f with
    | next =>
      obtain ⟨σ', H', J', q⟩ := hsp
      exact wpAny_execs_nil ⟨σ', H', J'.ofTry ok, q⟩
    | brk => obtain ⟨σ', H', J', q⟩ := hsp; exact ⟨σ', H', J'.ofTry ok, q⟩
    | cont => obtain ⟨σ', H', J', q⟩ := hsp; exact ⟨σ', H', J'.ofTry ok, q⟩
    | ret u => obtain ⟨v, σ', H', J', r, q⟩ := hsp; exact ⟨v, σ', H', J'.ofTry ok, r, q⟩
end
end Ev

/-! Ev55: a def that tries what it got: its promise, by what the call of it does. -/
namespace Ev
open PySem PySem.Spec PyProof.Rows L2 NdefX
/-- a statement in a try: what the clause wishes of an exception may speak of the slots -/
def TPost (W : Wd) (Wx : WX) (σ : L2.St) (F : Fb) (H : Hp) (r : RS) (D : Ends) : Prop := match r with
  | .ex c d g => ∀ F' H' dx v, Xe F F' H H' → Cells W F' H' g → Rep W F' H' d v → Xd F' H' dx v → Wx (.ref (W.ec c)) (some dx) σ H'
  | r => SPost W FE F H r D
/-- try: m, the error then held in slot j -/
def tryHS (NE i j : Nat) (m : MS) : MS := fun e g => match m e g with
  | .ex c d g1 => if c < NE then .nx ((e.set j (.v (.exc c d))).set i .no) g1 else .bad
  | r => r
/-- the call of what was handed in -/
def actM (call : List Cell → R D) : M D := fun _ g => call g
theorem no_st {W : Wd} {F : Fb} {e : Env} {g : List Cell} {σ : L2.St} {H : Hp} (S : St W F e g σ H) (i : Nat) : St W F (e.set i .no) g (σ.set i none) H := by
  have key : ∀ {k : Nat} {sl : Slot}, (e.set i .no)[k]? = some sl → sl ≠ .no → k ≠ i ∧ e[k]? = some sl := fun {k sl} h n => by
    by_cases q : k = i
    · subst q
      by_cases hl : k < e.length
      · rw [List.getElem?_set_self hl] at h
        cases h
        exact absurd rfl n
      · rw [List.getElem?_eq_none (by rw [List.length_set]; omega)] at h
        cases h
    · rw [List.getElem?_set_ne (Ne.symm q)] at h
      exact ⟨q, h⟩
  refine ⟨S.cells, by simpa using S.len, fun k d h => ?_, fun k ds h => ?_, fun k l ds es a hkl h1 h2 h3 => ?_⟩
  · obtain ⟨q, h⟩ := key h (fun z => nomatch z)
    obtain ⟨v, h1, h2⟩ := S.slots k d h
    exact ⟨v, by rw [List.getElem?_set_ne (Ne.symm q)]; exact h1, h2⟩
  · obtain ⟨q, h⟩ := key h (fun z => nomatch z)
    obtain ⟨a, vs, h1, h2⟩ := S.owns k ds h
    exact ⟨a, vs, by rw [List.getElem?_set_ne (Ne.symm q)]; exact h1, h2⟩
  · obtain ⟨q1, h1⟩ := key h1 (fun z => nomatch z)
    obtain ⟨q2, h2⟩ := key h2 (fun z => nomatch z)
    rw [List.getElem?_set_ne (Ne.symm q1)] at h3
    rw [List.getElem?_set_ne (Ne.symm q2)]
    exact S.apart k l ds es a hkl h1 h2 h3
theorem set3 {α : Type} (σ : List α) (i j : Nat) (x y z : α) : ((σ.set i x).set j y).set i z = (σ.set j y).set i z := by
  refine List.ext_getElem? fun k => ?_
  by_cases h : k = i
  · subst h
    by_cases hl : k < σ.length
    · rw [List.getElem?_set_self (by simpa using hl), List.getElem?_set_self (by simpa using hl)]
    · rw [List.getElem?_eq_none (by simp; omega), List.getElem?_eq_none (by simp; omega)]
  · rw [List.getElem?_set_ne (Ne.symm h), List.getElem?_set_ne (Ne.symm h)]
    by_cases h2 : k = j
    · subst h2
      by_cases hl : k < σ.length
      · rw [List.getElem?_set_self (by simpa using hl), List.getElem?_set_self (by simpa using hl)]
      · rw [List.getElem?_eq_none (by simp; omega), List.getElem?_eq_none (by simp; omega)]
    · rw [List.getElem?_set_ne (Ne.symm h2), List.getElem?_set_ne (Ne.symm h2), List.getElem?_set_ne (Ne.symm h)]
/-- what the clause does with it -/
theorem hold_post {W : Wd} {E : XK} {NE i j : Nat} {m : MS} {F : Fb} {e : Env} {g : List Cell} {σ : L2.St} {H : Hp} {D : Ends} {cv : Value} (S : St W F e g σ H) (hex : ∀ c, c < NE → PySem.W.exmOne W.K (.ref (W.ec c)) cv = some true)
    (hE : ∀ r : RS, (∀ c d g, r ≠ .ex c d g) → SPost W E F H r D → SPost W FE F H r D) (p : SPost W E F H (tryHS NE i j m e g) D) : TPost W (wHold W.K cv i j D) σ F H (m e g) D := by
  unfold tryHS at p
  cases q : m e g with
  | ex c d g1 =>
    rw [q] at p
    simp only at p
    split at p
    · rename_i hc
      intro F' H' dx v x cc rv hd
      refine ⟨W.ec c, dx, rfl, rfl, hex c hc, fun a na => ?_⟩
      rw [set3]
      have S1 : St W F' e g1 σ (upd H' a (exv a (W.ec c) dx)) := (S.step x cc).step (Xe.new na) (cc.new na)
      have u : Up F' F' H' (upd H' a (exv a (W.ec c) dx)) := (Xe.new na).up
      have hd2 := hd.up u
      exact p F' _ _ (x.trans (Xe.new na)).xs (no_st (S1.put (d := .exc c d) ⟨a, dx, v, rfl, upd_same, cc.none na, hd2.1, hd2.2, rv.up u⟩ j) i)
    · exact p.elim
  | nx e1 g1 => rw [q] at p; exact hE _ (fun _ _ _ z => by cases z) p
  | rt d g1 => rw [q] at p; exact hE _ (fun _ _ _ z => by cases z) p
  | bk e1 g1 => rw [q] at p; exact hE _ (fun _ _ _ z => by cases z) p
  | ct e1 g1 => rw [q] at p; exact hE _ (fun _ _ _ z => by cases z) p
  | bad => rw [q] at p; exact p.elim
theorem sp_FE {W : Wd} {E : XK} {F : Fb} {H : Hp} {D : Ends} (r : RS) (n : ∀ c d g, r ≠ .ex c d g) (p : SPost W E F H r D) : SPost W FE F H r D := by
  cases r with
  | ex c d g => exact absurd rfl (n c d g)
  | _ => exact p
/-- the def's own reading: slot 0 holds what it got, Mok tells of the one who made it -/
def tTold (W : Wd) (f : Addr) (Mok : Fb → Hp → Prop) (E : XK) (m : MS) : TS := fun D σ H => ∃ F e g, St W F e g σ H ∧ σ[0]? = some (some (.ref f)) ∧ (∀ F' H', Xs F F' H H' → Mok F' H') ∧ SPost W E F H (m e g) D
def tAct (W : Wd) (f : Addr) (Mok : Fb → Hp → Prop) (call : List Cell → R D) (Wx : WX) : TE := fun σ H Q => ∃ F e g, St W F e g σ H ∧ σ[0]? = some (some (.ref f)) ∧ Mok F H ∧ Post W (fun cls d H' => Wx cls d σ H') F H (call g) (fun d _ F' H' => ∀ v, Rep W F' H' d v → Q v H')
/-- the def keeps its promise in whatever surroundings -/
def ToldB (P : Program) (w : World) (W : Wd) (mg : Str → Option Value) (base : Heap) (k : Nat) (N : List Str) (x : Str) (st : Stmt) (fT : Addr) (ask : Str) (body : (List Cell → R D) → MS) : Prop :=
  ∀ (cdv : Value) (A : Around) (out : List PySem.Env) (s : Shared) (H : Hp) (E : XK) (call : List Cell → R D) (Mok : Fb → Hp → Prop) (f : Addr),
    (A.deeper (envOfC x (defScope st) s.heap.objs.size fT cdv)).guards = some [] → Room k (A.deeper (envOfC x (defScope st) s.heap.objs.size fT cdv)) →
    (∀ (Wx : WX) (pn : List (Addr × Obj)) (xe : Value → Shared → Prop) (p1 p2 : Pos), Takes ((cxOf CX0 P w W.K mg base N x (defScope st) fT cdv A out s H E).tr pn xe) Wx →
      PE ((cxOf CX0 P w W.K mg base N x (defScope st) fT cdv A out s H E).tr pn xe) (.Call (.Name ask p1) [] [] p2) (tAct W f Mok call Wx)) →
    PSs (cxOf CX0 P w W.K mg base N x (defScope st) fT cdv A out s H E).nox (defBody st) (tTold W f Mok E (body call))
/-- a first statement that leaves slot 0 as it is -/
def Keep0 (W : Wd) (X : Cx) (st : Stmt) (sp : MS) : Prop := ∃ tp, PS X st tp ∧ ∀ (D : Ends) (F : Fb) (e : Env) (g : List Cell) (σ : L2.St) (H : Hp), St W F e g σ H →
  (∃ e1, sp e g = .nx e1 g ∧ ∀ F' σ' H', Xs F F' H H' → St W F' e1 g σ' H' → σ'[0]? = σ[0]? → D.nx σ' H') → tp D σ H
section
variable {W : Wd} {X : Cx} {x y : Str} {a b : Expr} {p1 p2 pt pt2 pos : Pos} {kt k2 : Nat}
theorem keep_parG {i j : Nat} (hi0 : 0 ≠ i) (hj0 : 0 ≠ j) (hc : X.calm = true) (hN : X.N.Nodup) (h1 : PE X a (tM W FE (conM .non))) (h2 : PE X b (tF W FE (fitM nilM))) (hi : X.N[i]? = some x := by rfl) (hj : X.N[j]? = some y := by rfl) (hij : i ≠ j := by decide)
    (hx : X.env.scope.names.lookup x = some .local := by rfl) (hy : X.env.scope.names.lookup y = some .local := by rfl) (hs1 : starEach [a, b] X.env = (false, eval a X.env) :: starEach [b] X.env := by rfl) (hs2 : starEach [b] X.env = (false, eval b X.env) :: starEach [] X.env := by rfl)
    (hw : swappedStores [.Tuple [.Name x p1, .Name y p2] kt pt] (.Tuple [a, b] k2 pt2) X.env = pure (some [x, y]) := by rfl)
    (hs : swapsWithSole [.Tuple [.Name x p1, .Name y p2] kt pt] (.Tuple [a, b] k2 pt2) pos.line X.env = pure false := by rfl) :
    Keep0 W X (.Assign [.Tuple [.Name x p1, .Name y p2] kt pt] (.Tuple [a, b] k2 pt2) pos) (parSF i j (conM .non) (fitM nilM)) :=
  ⟨_, ps_par hc hN hi hj hij hx hy (pa_cons h1 (pa_cons h2 pa_nil hs2) hs1) hw hs, fun D F e g σ H S ⟨e1, he, h⟩ => by
    cases he
    refine ⟨F, e, g, S, fun F1 H1 x1 c1 v r => ⟨F1, e, g, S.step x1 c1, fun F2 H2 x2 c2 q vs nq r2 => ⟨v, _, rfl, ?_⟩⟩⟩
    refine h _ _ _ ((x1.trans x2).xs.trans (Xs.own nq)) ((((S.step x1 c1).step x2 c2).put (r.up x2.up) i).putO nq r2 j) ?_
    rw [List.getElem?_set_ne (Ne.symm hj0), List.getElem?_set_ne (Ne.symm hi0)]⟩
end
section
variable {P : Program} {w : World} {W : Wd} {mg : Str → Option Value} {base : Heap} {k NE i j : Nat} {N : List Str} {x ask en yn xn : Str} {st pre : Stmt} {rest : List Stmt} {fT : Addr} {cv : Value} {sp : MS} {rm : MS} {np yp vp ap pos pos' q1 q2 q3 : Pos}
theorem told_seq {m m2 : MS} {E : XK} {F : Fb} {e : Env} {g : List Cell} {H : Hp} {D : Ends} (p : SPost W E F H (seqS m m2 e g) D) : SPost W E F H (m e g) { D with nx := fun σ H => tMS W E m2 D σ H } := by
  unfold seqS at p
  cases q : m e g with
  | nx e1 g1 =>
    rw [q] at p
    exact fun F' σ' H' x s => ⟨F', e1, g1, s, p.on x⟩
  | bk e1 g1 => rw [q] at p; exact p
  | ct e1 g1 => rw [q] at p; exact p
  | rt d g1 => rw [q] at p; exact p
  | ex c d g1 => rw [q] at p; exact p
  | bad => rw [q] at p; exact p
theorem told_expr (hsp : ∀ e g, ∃ e1, sp e g = .nx e1 g) (hst : defBody st = pre :: .Try [.Expr (.Call (.Name ask q1) [] [] q2) q3] [.ExceptHandler (some (.Name xn np)) (some en) [.Assign [.Name yn yp] (.Name en vp) ap] pos'] [] [] pos :: rest)
    (hex : ∀ c, c < NE → PySem.W.exmOne W.K (.ref (W.ec c)) cv = some true)
    (h : ∀ (cdv : Value) (A : Around) (out : List PySem.Env) (s : Shared) (H : Hp) (E : XK), (A.deeper (envOfC x (defScope st) s.heap.objs.size fT cdv)).guards = some [] → Room k (A.deeper (envOfC x (defScope st) s.heap.objs.size fT cdv)) →
      Keep0 W (cxOf CX0 P w W.K mg base N x (defScope st) fT cdv A out s H E).nox pre sp ∧ PSs (cxOf CX0 P w W.K mg base N x (defScope st) fT cdv A out s H E).nox rest (tMS W E rm) ∧
      (cxOf CX0 P w W.K mg base N x (defScope st) fT cdv A out s H E).nox.N.Nodup ∧ (cxOf CX0 P w W.K mg base N x (defScope st) fT cdv A out s H E).nox.N[i]? = some en ∧ (cxOf CX0 P w W.K mg base N x (defScope st) fT cdv A out s H E).nox.env.kindOf en = some .local ∧
      (cxOf CX0 P w W.K mg base N x (defScope st) fT cdv A out s H E).nox.N[j]? = some yn ∧ (cxOf CX0 P w W.K mg base N x (defScope st) fT cdv A out s H E).nox.env.kindOf yn = some .local ∧ Names (cxOf CX0 P w W.K mg base N x (defScope st) fT cdv A out s H E).nox xn cv ∧
      swapsWith (.Name en vp) (some (.Name yn yp)) ap.line (cxOf CX0 P w W.K mg base N x (defScope st) fT cdv A out s H E).nox.env = pure false ∧ swapsWith (.Call (.Name ask q1) [] [] q2) none q3.line (cxOf CX0 P w W.K mg base N x (defScope st) fT cdv A out s H E).nox.env = pure false)
    (hdn : (en == ("__debug__" : Str)) = false := by decide) (hcn : (en == ("__classdict__" : Str)) = false := by decide) :
    ToldB P w W mg base k N x st fT ask (fun call => seqS sp (seqS (tryHS NE i j (exprS (actM call))) rm)) := by
  intro cdv A out s H E call Mok f hg hr hact
  obtain ⟨⟨tp, hp, hpre⟩, hrest, hN, hi, hln, hj, hly, hc, hsw, hse⟩ := h cdv A out s H E hg hr
  rw [hst]
  have htry : PS (cxOf CX0 P w W.K mg base N x (defScope st) fT cdv A out s H E).nox (.Try [.Expr (.Call (.Name ask q1) [] [] q2) q3] [.ExceptHandler (some (.Name xn np)) (some en) [.Assign [.Name yn yp] (.Name en vp) ap] pos'] [] [] pos)
      (fun D σ H => ∃ F e g, St W F e g σ H ∧ σ[0]? = some (some (.ref f)) ∧ Mok F H ∧ SPost W E F H (tryHS NE i j (exprS (actM call)) e g) D) := by
    refine weakS (ps_try_hold (tb := fun Wx D σ H => ∃ F e g, St W F e g σ H ∧ σ[0]? = some (some (.ref f)) ∧ Mok F H ∧ TPost W Wx σ F H (exprS (actM call) e g) D) rfl rfl rfl hN hi hln hj hly hc (fun Wx pn xe tk => ?_) hdn hcn hsw) fun D σ H ⟨F, e, g, S, h0, hm, p⟩ => ⟨F, e, g, S, h0, hm, hold_post S hex sp_FE p⟩
    have ha := hact Wx pn xe q1 q2 tk
    refine weakB (pss_one (ps_expr ha hse)) fun D σ H ⟨F, e, g, S, h0, hm, p⟩ => ?_
    refine ⟨F, e, g, S, h0, hm, ?_⟩
    unfold exprS actM at p
    revert p
    cases q : call g with
    | ok d g1 => exact fun p F1 H1 x1 c1 v rv => p F1 σ H1 x1.xs (S.step x1 c1)
    | ex c d g1 => exact fun p => p
    | bad => exact fun p => p.elim
  refine weakB (pss_cons hp (pss_cons htry hrest)) fun D σ H ⟨F, e, g, S, h0, hm, p⟩ => ?_
  obtain ⟨e1, q⟩ := hsp e g
  refine hpre _ F e g σ H S ⟨e1, q, fun F' σ' H' x1 S1 h1 => ?_⟩
  have p1 : SPost W E F H (match sp e g with
    | .nx e1 g1 => seqS (tryHS NE i j (exprS (actM call))) rm e1 g1
    | r => r) D := p
  rw [q] at p1
  exact ⟨F', e1, g, S1, h1.trans h0, hm F' H' x1, told_seq (p1.on x1)⟩
end
end Ev

/-! Ev56: a lambda handed to a def that tries it. -/
namespace Ev
open PySem PySem.Spec PyProof.Rows L2 NdefX
/-- the heap behind the making of a lambda: as it was, or one code object more in the table -/
def MkH (H H1 : Hp) (P c' : Addr) (q : Str) (ps : Array Value) : Prop := H1 = H ∨ ∃ ps' : Array Value, H c' = none ∧ H1 = upd (upd H P (.tbl ps')) c' (LamX.CodeO c' q) ∧ TriplesOk ps'.toList ∧
  ∀ (pos : Pos) (cv : Value), codeAmong pos ps'.toList = some cv → codeAmong pos ps.toList = some cv ∨ cv = .ref c'
section
variable {X : Cx} {pins : List (Addr × Obj)} {σ : L2.St} {H : Hp} {s : Shared}
theorem lam_mk3 {c P : Addr} {ps : Array Value} {Nh : Addr → Prop} {params : Arguments} {body : Expr} {scope : Scope} {pos : Pos} {E Q : Value → Shared → Prop} (I : Inv X pins σ H s) (TB : LamX.TabB X.base X.mg c P) (hcode : X.env.code = .ref c)
    (hP : H P = some (.tbl ps)) (ht : TriplesOk ps.toList) (ha : ∀ (pos : Pos) (cv : Value), codeAmong pos ps.toList = some cv → ∃ c, cv = .ref c ∧ H c = some (LamX.CodeO c (X.env.qual ++ "<lambda>")) ∧ Nh c)
    (hdef : defaultsOf params X.env = ([], [])) (hfree : ∀ y ∈ scope.names, y.2 = .free → ∃ c, X.env.cells.lookup y.1 = some c)
    (h : ∀ (f c' : Addr) (pm ctv : Value) (H1 : Hp) (s' : Shared), Inv X pins σ H1 s' → MkH H H1 P c' (X.env.qual ++ "<lambda>") ps → (Nh c' ∨ H c' = none) →
      s'.heap.get? f = some (PySem.W.kla_obj "<lambda>" (X.env.qual ++ "<lambda>") params body scope (cloFrom X.env.cells scope.names []) pm c' ctv) → H1 f = none → f ∉ frs X.stack → H1 c' = some (LamX.CodeO c' (X.env.qual ++ "<lambda>")) → Q (.ref f) s') :
    wpAny (model X.prog X.w) X.A (eval (.Lambda params body scope pos) X.env) Q E s := by
  refine PySem.W.kla_eval hdef ?_
  have bP : s.heap.BuiltinsAt X.mg P := TB.bm.keeps I.bk
  have hP' : s.heap.get? P = some { cls := .none, data := .fields ps } := I.hok P _ hP
  have nofr : ∀ f, s.heap.objs.size ≤ f → f ∉ frs X.stack := fun f hf z => by
    rcases List.mem_cons.mp (I.stkSub _ z) with e | e
    · have k := I.lt
      rw [← e] at k
      exact Nat.lt_irrefl _ (Nat.lt_of_lt_of_le k hf)
    · exact I.nofs hf e
  cases hc : codeAmong pos ps.toList with
  | some cv =>
    obtain ⟨c', e, hco, hn⟩ := ha pos cv hc
    subst e
    refine PySem.W.kla_makeFunctionHit (mg := X.mg) (c := c) (P := P) (ps := ps) (closure_ok hfree) I.ok.glob (I.mod.glob.keeps I.bk) hcode (TB.code.keeps I.bk) hP' ht hc bP fun ctv h' tk hx hsz => ?_
    have I1 : Inv X pins σ H { s with heap := h'.push (PySem.W.kla_obj "<lambda>" (X.env.qual ++ "<lambda>") params body scope (cloFrom X.env.cells scope.names []) ((X.mg "__name__").getD .none) c' ctv), toks := tk } :=
      I.kept fun b o e => Heap.get?_push_of_some _ (hx b o e)
    exact h _ c' _ ctv H _ I1 (.inl rfl) (.inl hn) (Heap.get?_push_size _ rfl) (I.hok.fresh hsz) (nofr _ hsz) hco
  | none =>
    refine PySem.W.kla_makeFunction (mg := X.mg) (c := c) (P := P) (ps := ps) (closure_ok hfree) I.ok.glob (I.mod.glob.keeps I.bk) hcode (TB.code.keeps I.bk) hP' ht hc TB.gP bP fun c' ctv h' tk hx hge hlt hrec htb => ?_
    obtain ⟨c2, oc, vs, t, e2, hoc, hd, hv⟩ := hrec
    cases e2
    have hsz : s.heap.objs.size ≤ h'.objs.size := Nat.le_trans hge (Nat.le_of_lt hlt)
    have nC : H c' = none := I.hok.fresh hge
    have I1 := LamX.inv_table (t' := tk) (q := X.env.qual ++ "<lambda>") (more := #[rawInt pos.line, rawInt pos.col, .ref c']) (h' := h'.push (PySem.W.kla_obj "<lambda>" (X.env.qual ++ "<lambda>") params body scope (cloFrom X.env.cells scope.names []) ((X.mg "__name__").getD .none) c' ctv)) I hP
      (fun b o hb e => Heap.get?_push_of_some _ (hx b o hb e)) (Heap.get?_push_of_some _ htb) hge ⟨oc, vs, t, Heap.get?_push_of_some _ hoc, hd, hv⟩
    have eL : (ps ++ #[rawInt pos.line, rawInt pos.col, .ref c']).toList = ps.toList ++ [rawInt pos.line, rawInt pos.col, .ref c'] := by simp
    have hfn : upd (upd H P (.tbl (ps ++ #[rawInt pos.line, rawInt pos.col, .ref c']))) c' (LamX.CodeO c' (X.env.qual ++ "<lambda>")) h'.objs.size = none := by
      rw [upd_ne (Nat.ne_of_gt hlt), upd_ne (Nat.ne_of_gt (Nat.lt_of_lt_of_le (Heap.lt_size hP') hsz))]
      exact I.hok.fresh hsz
    refine h h'.objs.size c' _ ctv _ _ I1 (.inr ⟨_, nC, rfl, ?_, fun p' cv hcv => ?_⟩) (.inr nC) (Heap.get?_push_size _ rfl) hfn (nofr _ hsz) upd_same
    · rw [eL]
      exact PySem.TriplesOk_snoc _ _ _ _ ht
    · rw [eL] at hcv
      exact LamX.among_app _ ht hcv
/-- the call of the lambda in the def that got it; what is wished of an exception may speak of the slots -/
theorem pe_actA {CXg : CXT} {Eg : XK} {Ng : List Str} {qg : Str} {sg : Scope} {g f c' : Addr} {cdg pm ctv : Value} {params : Arguments} {body : Expr} {scope : Scope} {k i : Nat} {a : Str} {pn : List (Addr × Obj)} {xe : Value → Shared → Prop} {Wx : WX} {tb : XK → TE} {p1 p2 : Pos}
    (I : Inv X pins σ H s) (L : LamX.LamS X.env.scope scope) (hf : s.heap.get? f = some (PySem.W.kla_obj "<lambda>" (X.env.qual ++ "<lambda>") params body scope (cloFrom X.env.cells scope.names []) pm c' ctv)) (hfn : H f = none) (hfr : f ∉ frs X.stack)
    (hbind : bindArgs (PySem.W.kla_fn "<lambda>" (X.env.qual ++ "<lambda>") params body scope (cloFrom X.env.cells scope.names []) pm (.ref c') ctv) ⟨[], []⟩ = pure [])
    (tk : Takes ((cxOf CXg X.prog X.w X.K X.mg X.base Ng qg sg g cdg X.A X.stack s H Eg).tr pn xe) Wx) (hg : X.A.guards = some []) (hr : Room (k + 1) (X.A.deeper (envOfC qg sg s.heap.objs.size g cdg)))
    (hbody : ∀ (A : Around) (outer : List PySem.Env) (s : Shared) (H : Hp) (E : XK), A.guards = some [] → Room k (A.deeper (LamX.lamEnv X scope s.heap.objs.size f c')) → PE (LamX.lamCx X A outer s H E scope f c') body (tb E))
    (hN : Ng[i]? = some a) (hv : Vis sg a) (hd : (a == ("__debug__" : Str)) = false := by decide) (hcd : (a == ("__classdict__" : Str)) = false := by decide) :
    PE ((cxOf CXg X.prog X.w X.K X.mg X.base Ng qg sg g cdg X.A X.stack s H Eg).tr pn xe) (.Call (.Name a p1) [] [] p2)
      (fun σZ HZ Q => σZ[i]? = some (some (.ref f)) ∧ HZ c' = some (LamX.CodeO c' (X.env.qual ++ "<lambda>")) ∧ tb (fun cls d H' => Wx cls d σZ H') σ HZ Q) := by
  refine ⟨fun pinsZ sZ σZ HZ Q IZ h => ?_⟩
  obtain ⟨hs, hc, htb⟩ := h
  refine wpAny_Call_Name_kw (thn ((pe_var (pos := p1) (i := i) hN hv hd hcd).run pinsZ sZ σZ HZ (fun v H1 => v = .ref f ∧ H1 = HZ) IZ ⟨.ref f, hs, rfl, rfl⟩) fun u s1 ⟨v, H1, I1, r1, q1⟩ => ?_)
  obtain ⟨ev, eH⟩ := q1
  subst ev
  rw [eH] at I1
  obtain rfl : u = Value.ref f := r1
  have of1 : s1.heap.get? f = some (PySem.W.kla_obj "<lambda>" (X.env.qual ++ "<lambda>") params body scope (cloFrom X.env.cells scope.names []) pm c' ctv) := I1.base.keep f _ hf hfn hfr (fun z => nomatch (show f ∈ ([] : List Addr) from z))
  refine PySem.W.callWith_F0 ⟨_, _, _, _, of1⟩ ?_
  have un : Un (frs X.stack) [] H HZ s.heap s1.heap := I1.base
  obtain ⟨⟨oc, vs, t, hoc, hdc, hvc⟩, _, _⟩ := I1.hok c' _ hc
  have rc : codeAny (model X.prog X.w) (X.A.deeper (envOfC qg sg s.heap.objs.size g cdg)) (.call (.ref f) ⟨[], []⟩) (CR (L2.CX X.prog X.w) (envOfC qg sg s.heap.objs.size g cdg :: X.stack) X.prog X.w HZ s1 Q (fun cls d H' => Wx cls d σZ H')) s1 := by
    refine PySem.W.kla_callFunE hr.depth of1 rfl L.co L.gen rfl ⟨c', oc, vs, t, rfl, hoc, hdc, hvc⟩ ?_
    rw [hbind]
    refine wpAny_pure (wpAny_newFunctionEnv (fun y hy => (L.own y hy).2) (fun y hy => absurd hy (by simp)) (fun h₁ hns hsb => ⟨I1.nolimit.fresh _ hsb, ?_⟩) L.kind)
    show codeAny _ _ (.expr body (LamX.lamEnv X scope s1.heap.objs.size f c')) _ _
    have kp : ∀ b o, s1.heap.get? b = some o → h₁.get? b = some o := fun b o e => hsb.extBut b o (Nat.ne_of_lt (Heap.lt_size e)) (Heap.get?_push_of_some _ e)
    have J : Inv (LamX.lamCx X (X.A.deeper (envOfC qg sg s.heap.objs.size g cdg)) (envOfC qg sg s.heap.objs.size g cdg :: X.stack) s1 HZ (fun cls d H' => Wx cls d σZ H') scope f c') [] σ HZ { s1 with heap := h₁, toks := s1.toks + ([] : List (Str × Value)).length } :=
      LamX.lam_start2 I L I1.env0 hr.hd un hns kp
    refine PySem.W.kla_codeExpr (wpAny_mono ((hbody _ _ s1 HZ _ (by exact hg) (hr.deeper _)).run [] _ _ HZ Q J htb) (fun v s' hq => ?_) fun e s' hq => hq)
    obtain ⟨w', H', J', rv, q⟩ := hq
    exact ⟨w', H', J'.os, J'.bare, J'.base, J'.hok, rv, q⟩
  refine wpAny_call (codeAny_mono rc fun r s' hq => ?_)
  rcases r with er | (u | _ | _ | _)
  · exact tk er s' (XE.of_call I1 (fun cls d H' z => z) hq)
  all_goals first
    | exact I1.after hq
    | exact hq.elim
end
/-! ### the evaluator's word -/
/-- x(lambda: ..): the def's body, told what the lambda does -/
def toldM (N : Nat) (body : (List Cell → R D) → MS) (n : Nat) (mb : M D) : M D := fun e g => match g[n]? with
  | some (.tbl m) => if m = n then fnM 0 N (body fun g' => mb e g') [] g else .bad
  | _ => .bad
section
variable {W : Wd} {E : XK} {F F2 : Fb} {H H1 : Hp} {g : List Cell}
theorem tab_at {n : Nat} (c : Cells W F H g) (hg : g[n]? = some (.tbl n)) : F.th[n]? = some (W.tb n) ∧ TabF F H (W.tb n) (W.tq n) := by
  obtain ⟨a, ha⟩ : ∃ a, F.th[n]? = some a := ⟨_, List.getElem?_eq_getElem (by rw [c.len]; exact (List.getElem?_eq_some_iff.mp hg).1)⟩
  obtain ⟨e, h⟩ := c.cel n a _ ha hg
  subst e
  exact ⟨ha, h⟩
theorem mk_cells {n : Nat} {c' : Addr} {ps : Array Value} (c : Cells W F H g) (hg : g[n]? = some (.tbl n)) (hP : H (W.tb n) = some (.tbl ps)) (hps : ∀ (pos : Pos) (cv : Value), codeAmong pos ps.toList = some cv → ∃ c, cv = .ref c ∧ H c = some (LamX.CodeO c (W.tq n)) ∧ ¬ F.has c)
    (m : MkH H H1 (W.tb n) c' (W.tq n) ps) : Xe F F H H1 ∧ Cells W F H1 g := by
  rcases m with rfl | ⟨ps', nc, rfl, t', hcv⟩
  · exact ⟨.refl, c⟩
  · obtain ⟨hth, _⟩ := tab_at c hg
    have hmem : W.tb n ∈ F.th := List.mem_of_getElem? hth
    have nPc : W.tb n ≠ c' := ne_of_none hP nc
    have same : ∀ {a : Addr} {o : HO}, H a = some o → a ≠ W.tb n → upd (upd H (W.tb n) (.tbl ps')) c' (LamX.CodeO c' (W.tq n)) a = some o := fun {a o} e h => by
      rw [upd_ne (ne_of_none e nc), upd_ne h]
      exact e
    have x : Xe F F H (upd (upd H (W.tb n) (.tbl ps')) c' (LamX.CodeO c' (W.tq n))) := by
      refine ⟨fun a o e h => same e fun z => h (by rw [z]; exact hmem), fun a o e => ?_, ⟨[], by simp, by simp⟩, rfl, rfl⟩
      by_cases z : a = W.tb n
      · exact ⟨.tbl ps', by rw [z, upd_ne nPc, upd_same]⟩
      · exact ⟨o, same e z⟩
    refine ⟨x, c.nd, c.len, fun k a ce h1 h2 => ?_, fun a h => ?_, c.dj, c.dj2⟩
    · by_cases z : a = W.tb n
      · have hk : k = n := by
          have w1 := List.getElem?_eq_some_iff.mp h1
          have w2 := List.getElem?_eq_some_iff.mp hth
          exact (List.getElem_inj (h₀ := w1.1) (h₁ := w2.1) c.nd).mp (by rw [w1.2, w2.2, z])
        subst hk
        rw [hg] at h2
        cases h2
        refine ⟨z, ps', by rw [z, upd_ne nPc, upd_same], t', fun pos cv hc => ?_⟩
        rcases hcv pos cv hc with w | w
        · obtain ⟨d, e1, e2, e3⟩ := hps pos cv w
          exact ⟨d, e1, same e2 (fun y => by rw [y, hP] at e2; cases e2), e3⟩
        · exact ⟨c', w, upd_same, c.none nc⟩
      · obtain ⟨o, ho⟩ := c.tr a (.inr (.inr (List.mem_of_getElem? h1)))
        exact (c.cel k a ce h1 h2).up x.up ((same ho z).trans ho.symm)
    · obtain ⟨o, ho⟩ := c.tr a h
      exact x.st a o ho
/-- the same addresses, under other heads -/
theorem post_same {r : R D} {Q : VK} (c : Cells W F H g) (hh : ∀ a, F2.has a ↔ F.has a) (ht : F2.th = F.th) (q : Post W E F H r fun d _ F' H' => ∀ v, Rep W F' H' d v → Q v H') : Post W E F2 H r fun d _ F' H' => ∀ v, Rep W F' H' d v → Q v H' := by
  have key : ∀ {F' : Fb} {H' : Hp} {g' : List Cell}, Xe F2 F' H H' → Cells W F' H' g' → Xe F ⟨F.nu, F.om, F'.th⟩ H H' ∧ Cells W ⟨F.nu, F.om, F'.th⟩ H' g' ∧ Up F' ⟨F.nu, F.om, F'.th⟩ H' H' := fun {F' H' g'} x c' => by
    obtain ⟨more, hm, hn⟩ := x.th
    have h1 : ∀ a, (⟨F.nu, F.om, F'.th⟩ : Fb).has a → F'.has a := fun a z => by
      have key2 : F2.has a → F'.has a := fun w => by
        rcases w with w | w | w
        · exact .inl (by rw [x.nu]; exact w)
        · exact .inr (.inl (by rw [x.om]; exact w))
        · exact .inr (.inr (by rw [hm]; exact List.mem_append_left _ w))
      rcases z with z | z | z
      · exact key2 ((hh a).mpr (.inl z))
      · exact key2 ((hh a).mpr (.inr (.inl z)))
      · exact .inr (.inr z)
    refine ⟨⟨fun a o e n => x.keep a o e (by rw [ht]; exact n), x.st, ⟨more, by rw [hm, ht], hn⟩, rfl, rfl⟩, c'.less h1 rfl (fun a h => ?_) c.dj2, Up.of_has h1 rfl⟩
    rw [hm, ht] at h
    rcases List.mem_append.mp h with h | h
    · exact c.dj a h
    · have nh : ¬ F.has a := fun z => by
        obtain ⟨o, e⟩ := c.tr a z
        rw [hn a h] at e
        cases e
      exact ⟨fun z => nh (.inl z), fun z => nh (.inr (.inl z))⟩
  cases r with
  | ok d g' =>
    intro F' H' x c' v rv
    obtain ⟨h1, h2, h3⟩ := key x c'
    exact q _ H' h1 h2 v (rv.up h3)
  | ex cc d g' =>
    intro F' H' dx v x c' rv hd
    obtain ⟨h1, h2, h3⟩ := key x c'
    exact q _ H' dx v h1 h2 (rv.up h3) (hd.up h3)
  | bad => exact q
end
end Ev

/-! Ev57: x(lambda: ..). -/
namespace Ev
open PySem PySem.Spec PyProof.Rows L2 NdefX
section
variable {X : Cx} {W : Wd} {E : XK}
/-- the maker's state within the def that got the lambda -/
theorem maker_st {F F' : Fb} {e : Env} {g Gc : List Cell} {σ : L2.St} {H H' : Hp} (S : St W F e g σ H) (x : Xs F.out F' H H') (cc : Cells W F' H' Gc) :
    (∀ a, (⟨F.nu ++ F'.om, F.om, F'.th⟩ : Fb).has a ↔ F'.has a) ∧ St W ⟨F.nu ++ F'.om, F.om, F'.th⟩ e Gc σ H' := by
  have hnu : F'.nu = F.nu ++ F.om := x.nu
  have hh : ∀ a, (⟨F.nu ++ F'.om, F.om, F'.th⟩ : Fb).has a ↔ F'.has a := fun a => by
    unfold Fb.has
    rw [hnu]
    simp only [List.mem_append]
    constructor
    · rintro ((h | h) | h | h)
      · exact .inl (.inl h)
      · exact .inr (.inl h)
      · exact .inl (.inr h)
      · exact .inr (.inr h)
    · rintro ((h | h) | h | h)
      · exact .inl (.inl h)
      · exact .inr (.inl h)
      · exact .inl (.inr h)
      · exact .inr (.inr h)
  obtain ⟨more, hm, hn⟩ := x.th
  have hm : F'.th = F.th ++ more := hm
  have fresh : ∀ a o, H a = some o → ¬F.has a → ¬(⟨F.nu ++ F'.om, F.om, F'.th⟩ : Fb).has a := fun a o e n z => by
    rcases z with z | z | z
    · rcases List.mem_append.mp z with z | z
      · exact n (.inl z)
      · rcases x.om a z with z | z
        · cases z
        · rw [e] at z; cases z
    · exact n (.inr (.inl z))
    · have z : a ∈ F'.th := z
      rw [hm] at z
      rcases List.mem_append.mp z with z | z
      · exact n (.inr (.inr z))
      · rw [hn a z] at e; cases e
  have kp : ∀ a o, H a = some o → a ∉ F.th → H' a = some o := fun a o e n => x.keep a o e n (fun z => by cases z)
  have up : Up F ⟨F.nu ++ F'.om, F.om, F'.th⟩ H H' := ⟨fun a o e n => ⟨kp a o e fun z => n (.inr (.inr z)), fresh a o e n⟩, more, hm⟩
  refine ⟨hh, cc.less (fun a h => (hh a).mp h) rfl (fun a h => ?_) (fun a h => ?_), S.len, fun i d h => ?_, fun i ds h => ?_, S.apart⟩
  · obtain ⟨z1, z2⟩ := cc.dj a h
    rw [hnu] at z1
    exact ⟨fun z => (List.mem_append.mp z).elim (fun z => z1 (List.mem_append_left _ z)) z2, fun z => z1 (List.mem_append_right _ z)⟩
  · obtain ⟨o, ho⟩ := S.cells.tr a (.inr (.inl h))
    refine fun z => (List.mem_append.mp z).elim (S.cells.dj2 a h) fun z => ?_
    rcases x.om a z with z | z
    · cases z
    · rw [ho] at z; cases z
  · obtain ⟨v, h1, h2⟩ := S.slots i d h
    exact ⟨v, h1, h2.up up⟩
  · obtain ⟨a, vs, h1, h2, h3, h4⟩ := S.owns i ds h
    exact ⟨a, vs, h1, h2, kp a _ h3 fun z => (S.cells.dj a z).2 h2, h4.up up⟩
theorem ev_told {n k kT : Nat} {x ask : Str} {fT c : Addr} {stT : Stmt} {NT : List Str} {fdT : FuncData} {bodyT : (List Cell → R D) → MS} {params : Arguments} {lbody : Expr} {scope : Scope} {mb : M D} {p lpos pos : Pos}
    (hK : X.K = W.K) (hgT : Gl X x) (hmT : X.mg x = some (.ref fT)) (hkT : PySem.W.keepIn X.K (.ref fT) = true) (FT : Fun W.K x x stT fT fdT) (ST : FnScope NT [ask] (defScope stT)) (hN0 : NT[0]? = some ask) (hv0 : Vis (defScope stT) ask)
    (hbT : Binds X.K fdT [ask] []) (hT : ToldB X.prog X.w W X.mg X.base kT NT x stT fT ask bodyT) (hG : X.A.guards = some []) (hr : Room (kT + 1) X.A) (hkk : k + 1 ≤ kT)
    (TB : LamX.TabB X.base X.mg c (W.tb n)) (hcode : X.env.code = .ref c) (hq : X.env.qual ++ "<lambda>" = W.tq n) (L : LamX.LamS X.env.scope scope) (hdef : defaultsOf params X.env = ([], []))
    (hbind : ∀ (q : Str) (cl : List (Str × Addr)) (pm cv ctv : Value), bindArgs (PySem.W.kla_fn "<lambda>" q params lbody scope cl pm cv ctv) ⟨[], []⟩ = pure [])
    (hbody : ∀ (A : Around) (outer : List PySem.Env) (s : Shared) (H : Hp) (E : XK) (f c' : Addr), A.guards = some [] → Room k (A.deeper (LamX.lamEnv X scope s.heap.objs.size f c')) → PE (LamX.lamCx X A outer s H E scope f c') lbody (tM W E mb))
    (hdb : (x == ("__debug__" : Str)) = false := by decide) (hd : (ask == ("__debug__" : Str)) = false := by decide) (hcd : (ask == ("__classdict__" : Str)) = false := by decide) :
    PE X (.Call (.Name x p) [.Lambda params lbody scope lpos] [] pos) (tM W E (toldM NT.length bodyT n mb)) := by
  obtain ⟨oc, od, kV, doc, pm0, an, cdv, ct, osl, rfl, lk, hcd0⟩ := FT.ex
  refine ⟨fun pins s σ H Q I ⟨F, e, g, S, q⟩ => ?_⟩
  have hgt : g[n]? = some (.tbl n) ∧ Post W E F H (fnM 0 NT.length (bodyT fun g' => mb e g') [] g) fun d _ F' H' => ∀ v, Rep W F' H' d v → Q v H' := by
    unfold toldM at q
    split at q
    · rename_i m hm
      split at q
      · rename_i hmn
        subst hmn
        exact ⟨hm, q⟩
      · exact q.elim
    · exact q.elim
  obtain ⟨hgn, q⟩ := hgt
  obtain ⟨hth, ps, hP, ht, ha⟩ := tab_at S.cells hgn
  refine wpAny_Call_Name_kw (ld_glob I hgT hmT ?_ hdb)
  refine PySem.W.callWith_K (h₀ := X.base) I.ok.mod.kin hkT ?_ (by rfl) (by rfl)
  show wpAny _ _ (spliced ((false, eval (.Lambda params lbody scope lpos) X.env) :: backTo pos (starEach [] X.env))) _ _ s
  refine Calls.spliced_cons (lam_mk3 (Nh := fun c => ¬F.has c) I TB hcode hP ht (by rw [hq]; exact ha) hdef (L.has I.ok) fun f c' pm' ctv H1 s' I1 mh hc' hf hfn hfr hco => ?_)
  refine Calls.spliced_nil ⟨I1.kIn, ?_⟩
  rw [hq] at mh
  obtain ⟨x1, cc1⟩ := mk_cells S.cells hgn hP ha mh
  have S1 : St W F e g σ H1 := S.step x1 cc1
  have nhc : ¬ F.has c' := hc'.elim (fun z => z) fun z => S.cells.none z
  have p1 : Post W E F.out H1 (fnM 0 NT.length (bodyT fun g' => mb e g') [] g) fun d _ F' H' => ∀ v, Rep W F' H' d v → Q v H' := post_in cc1 (q.on x1)
  have rc : codeAny (model X.prog X.w) X.A (.call (.ref fT) ⟨[.ref f], []⟩) (CR CX0 X.stack X.prog X.w H1 s' Q E) s' := by
    refine LamX.run_ofS (CX := CX0) (N := NT) (ps := [ask]) (us := [.ref f]) (vs := [.ref f]) (by rw [hK]; exact lk) (by rw [hK]; exact hcd0) ST hr I1.env0 (hbT s' [.ref f] I1.kIn rfl) (.cons rfl .nil) rfl fun hr' => ?_
    have hT' := hT cdv X.A X.stack s' H1 E (fun g' => mb e g') (fun F' H' => Xs F.out F' H1 H') f (by exact hG) hr' (fun Wx pn xe q1 q2 tk => ?_)
    · rw [hK]
      refine ⟨_, hT'.nox, ⟨F.nu ++ F.om, [], F.th⟩, List.replicate NT.length .no, g, ⟨cc1.out, ?_, fun i d h => ?_, fun i ds h => ?_, fun i j ds es a _ h => ?_⟩, rfl, fun F' H' x => x, ?_⟩
      · have h1 : 1 ≤ NT.length := by
          have := (List.getElem?_eq_some_iff.mp hN0).1
          omega
        simp [L2.start]
        omega
      · rw [List.getElem?_replicate] at h
        split at h <;> cases h
      · rw [List.getElem?_replicate] at h
        split at h <;> cases h
      · rw [List.getElem?_replicate] at h
        split at h <;> cases h
      · unfold fnM at p1
        rw [if_pos (show ([] : List D).length = 0 from rfl)] at p1
        exact fn_post p1
    · rw [← hK] at tk ⊢
      have pa := pe_actA (k := k) (p1 := q1) (p2 := q2) (tb := fun E => tM W E mb) (i := 0) (pm := pm') (ctv := ctv) (c' := c') (f := f) I1 L hf hfn hfr (hbind _ _ _ _ _) tk hG (hr'.mono hkk) (fun A outer s H E hg hr2 => hbody A outer s H E f c' hg hr2) hN0 hv0 hd hcd
      refine weakE pa fun σZ HZ Q' ⟨F', e', g', S', h0, hm, p'⟩ => ⟨h0, hm.keep c' _ hco (fun z => nhc (.inr (.inr z))) (fun z => by cases z), ?_⟩
      obtain ⟨hh, S2⟩ := maker_st S1 hm S'.cells
      exact ⟨_, e, g', S2, post_same S'.cells hh rfl p'⟩
  refine wpAny_call (codeAny_mono rc fun r s2 hq => ?_)
  rcases r with er | (u | _ | _ | _)
  · exact hq.elim
  all_goals first
    | exact I1.after hq
    | exact hq.elim
end
end Ev

/-! Ev58: isinstance and the value of a caught exception; the end of a law whose defs make lambdas. -/
namespace Ev
open PySem PySem.Spec PyProof.Rows L2 NdefX
/-- what the class of an exception says of its objects -/
structure ExK (K : PySem.W.Frag) (C : Addr) : Prop where
  cl : (PySem.W.clsIn K C).isSome = true
  ga : PySem.W.findIn K (.ref C) "__getattribute__" = some (some (.builtin "BaseException.__getattribute__"))
  gg : PySem.W.findIn K (.ref C) "__getattr__" = some none
  ex : PySem.W.subIn K (.ref C) (.type "BaseException") = some true
  hd : PySem.W.hasDictIn K C = true
  ha : PySem.W.findIn K (.ref C) "__class__" = some (some (.builtin "object.__class__"))
  sp : PySem.W.specialIn K (.builtin "object.__class__") "__get__" = some (some (.builtin "getset_descriptor.__get__"))
  tk : PySem.W.takesIn K (.builtin "object.__class__") = some true
  mo : PySem.W.mroIn K C (.type "object") = some true
  no : PySem.W.findIn K (.ref C) "value" = some none
section
variable {X : Cx} {pins : List (Addr × Obj)} {σ : L2.St} {H : Hp} {s : Shared}
theorem exv_inst {a C dx : Addr} {fs : List (Str × V)} (I : Inv X pins σ H s) (h : H a = some (exv a C dx)) (hx : H dx = some (.xd fs)) :
    ∃ oe od, PySem.W.InstAt s.heap a oe C (some od) ∧ ∃ mA : Str → Option Value, (∀ f, RelO (fs.lookup f) (mA f)) ∧ ∀ f, PySem.W.lookIn f od = some (mA f) := by
  obtain ⟨⟨oe, vs, he, h1, h2, h3⟩, _, _⟩ := (show ObjOk X.prog X.w H s.heap a (.ext fun h => ∃ oe vs, h.get? a = some oe ∧ oe.cls = .ref C ∧ oe.dict = some dx ∧ oe.data = .fields vs) from I.hok a _ h)
  obtain ⟨mA, hns, hr⟩ := (show ObjOk X.prog X.w H s.heap dx (.xd fs) from I.hok dx _ hx)
  obtain ⟨od, ho, hl⟩ := lookIn_ns hns
  exact ⟨oe, od, ⟨he, h1, by unfold PySem.W.notCls; rw [h3] <;> rfl, by rw [h2]; exact ho⟩, mA, hr, hl⟩
end
/-- isinstance(x, c), x None or a caught exception -/
def rIsX (K : PySem.W.Frag) : List V → Hp → VK → Prop := fun xs H Q => ∃ (x c : V) (u : Value) (b : Bool), xs = [x, c] ∧ ClsV c u ∧
  ((x = .non ∧ PySem.W.kitOne K (.type "NoneType") u = some b) ∨ ∃ (a C dx : Addr) (fs : List (Str × V)), x = .ref a ∧ H a = some (exv a C dx) ∧ H dx = some (.xd fs) ∧ ExK K C ∧ PySem.W.kitOne K (.ref C) u = some b) ∧ Q (.bl b) H
theorem call_isX {X : Cx} : CallR X (.builtin "isinstance") (rIsX X.K) := by
  intro pins s σ H xs us Q I r h
  obtain ⟨x, c, u, b, rfl, k, hx, q⟩ := h
  rcases hx with ⟨rfl, e⟩ | ⟨a, C, dx, fs, rfl, e1, e2, T, e⟩
  · exact call_isi pins s σ H _ us Q I r ⟨.non, c, .type "NoneType", u, b, rfl, k, .base .non, e, q⟩
  · obtain ⟨u1, u2, rfl, r1, r2⟩ := vals2 r
    have ec := k.eq r2
    subst ec
    obtain rfl : u1 = Value.ref a := r1
    obtain ⟨oe, od, J, _⟩ := exv_inst I e1 e2
    exact PySem.W.kia_one (PySem.W.kitx_exc T.cl T.ga T.gg T.ex T.ha T.sp T.tk T.mo) I.kIn J e (fun z => nomatch z) fun tk => ⟨.bl b, H, I.kept (t' := tk) fun _ _ z => z, rfl, q⟩
def isXD (NE : Nat) (t : Nat → Bool) : D → List Cell → Option D := fun d _ => match d with
  | .exc c _ => if c < NE then some (.bl (t c)) else none
  | .non => some (.bl false)
  | _ => none
section
variable {W : Wd} {E : XK} {X : Cx} {NE : Nat} {t : Nat → Bool} {x y : Str} {e : Expr} {me : M D} {p1 p2 pos : Pos}
theorem isX_post {F : Fb} {H : Hp} {d r : D} {v cv : V} {u : Value} {Q : VK} (hK : X.K = W.K) (k : ClsV cv u) (T : ∀ c, c < NE → ExK W.K (W.ec c)) (hy : ∀ c, c < NE → PySem.W.kitOne W.K (.ref (W.ec c)) u = some (t c)) (hn : PySem.W.kitOne W.K (.type "NoneType") u = some false)
    (rd : Rep W F H d v) (h : isXD NE t d [] = some r) (q : ∀ w, Rep W F H r w → Q w H) : rIsX X.K [v, cv] H Q := by
  cases d with
  | non =>
    cases h
    cases (show v = .non from rd)
    exact ⟨.non, cv, u, false, rfl, k, .inl ⟨rfl, by rw [hK]; exact hn⟩, q _ (rep_bl _)⟩
  | exc c x =>
    have h : (if c < NE then some (D.bl (t c)) else none) = some r := h
    split at h
    · rename_i hc
      cases h
      obtain ⟨a, dx, w, rfl, h1, _, h2, _, _⟩ := rd
      exact ⟨.ref a, cv, u, t c, rfl, k, .inr ⟨a, _, dx, _, rfl, h1, h2, by rw [hK]; exact T c hc, by rw [hK]; exact hy c hc⟩, q _ (rep_bl _)⟩
    · cases h
  | _ => cases h
/-- an own class -/
theorem ev_isX {n : Nat} (hK : X.K = W.K) (T : ∀ c, c < NE → ExK W.K (W.ec c)) (hy : ∀ c, c < NE → PySem.W.kitOne W.K (.ref (W.ec c)) (.ref (W.ec n)) = some (t c)) (hnn : PySem.W.kitOne W.K (.type "NoneType") (.ref (W.ec n)) = some false)
    (hg : Gl X x) (hx : x = ("isinstance" : Str)) (hm : X.mg x = none) (hgT : Gl X y) (hmT : X.mg y = some (.ref (W.ec n))) (hv : bootBuiltins x = some (.builtin "isinstance")) (he : PE X e (tM W E me)) (hn : x ≠ "__name__" := by decide)
    (hd : (x == ("__debug__" : Str)) = false := by decide) (hdT : (y == ("__debug__" : Str)) = false := by decide)
    (s1 : starEach [e, .Name y p2] X.env = (false, eval e X.env) :: starEach [.Name y p2] X.env := by rfl) (s2 : starEach [.Name y p2] X.env = (false, eval (.Name y p2) X.env) :: starEach [] X.env := by rfl) (hpl : (backTo pos (starEach [.Name y p2] X.env)).any (·.1) = false := by rfl) :
    PE X (.Call (.Name x p1) [e, .Name y p2] [] pos) (tM W E (unM (isXD NE t) me)) := by
  refine weakE (pe_callB call_isX hg hm hv (pa_cons he (pa_cons (pe_glob (v := .ref (W.ec n)) hgT hmT rfl hdT) pa_nil s2) s1) hn hd s1 hpl) fun σ H Q ⟨F, en, g, S, p⟩ => ?_
  refine ⟨F, en, g, S, (Post.bind p).mono fun x g1 F1 H1 x1 c1 p1 v r1 => ?_⟩
  obtain ⟨d, hd, kk⟩ := post_of p1
  exact isX_post hK (.own _) T hy hnn r1 hd fun w rw => kk F1 H1 .refl c1 w rw
/-- a built-in class -/
theorem ev_isXb {T0 : String} (hK : X.K = W.K) (T : ∀ c, c < NE → ExK W.K (W.ec c)) (hy : ∀ c, c < NE → PySem.W.kitOne W.K (.ref (W.ec c)) (.type T0) = some (t c)) (hnn : PySem.W.kitOne W.K (.type "NoneType") (.type T0) = some false)
    (hg : Gl X x) (hx : x = ("isinstance" : Str)) (hm : X.mg x = none) (hgT : Gl X y) (hmT : X.mg y = none) (hv : bootBuiltins x = some (.builtin "isinstance")) (hvT : bootBuiltins y = some (.type T0)) (he : PE X e (tM W E me)) (hn : x ≠ "__name__" := by decide) (hnT : y ≠ "__name__" := by decide)
    (hd : (x == ("__debug__" : Str)) = false := by decide) (hdT : (y == ("__debug__" : Str)) = false := by decide)
    (s1 : starEach [e, .Name y p2] X.env = (false, eval e X.env) :: starEach [.Name y p2] X.env := by rfl) (s2 : starEach [.Name y p2] X.env = (false, eval (.Name y p2) X.env) :: starEach [] X.env := by rfl) (hpl : (backTo pos (starEach [.Name y p2] X.env)).any (·.1) = false := by rfl) :
    PE X (.Call (.Name x p1) [e, .Name y p2] [] pos) (tM W E (unM (isXD NE t) me)) := by
  refine weakE (pe_callB call_isX hg hm hv (pa_cons he (pa_cons (pe_bltn (v := .ty T0) hgT hmT hvT rfl hnT hdT) pa_nil s2) s1) hn hd s1 hpl) fun σ H Q ⟨F, en, g, S, p⟩ => ?_
  refine ⟨F, en, g, S, (Post.bind p).mono fun x g1 F1 H1 x1 c1 p1 v r1 => ?_⟩
  obtain ⟨d, hd, kk⟩ := post_of p1
  exact isX_post hK (.ty _) T hy hnn r1 hd fun w rw => kk F1 H1 .refl c1 w rw
/-- the value of a caught exception -/
def valX (NE : Nat) : D → List Cell → Option D := fun d _ => match d with
  | .exc c x => if c < NE then some x else none
  | _ => none
theorem ev_valX (hK : X.K = W.K) (T : ∀ c, c < NE → ExK W.K (W.ec c)) (he : PE X e (tM W E me)) (hb : attributeBase e "value" X.env (eval e X.env) = eval e X.env := by rfl) : PE X (.Attribute e "value" pos) (tM W E (unM (valX NE) me)) := by
  refine ⟨fun pins s σ H Q I ⟨F, en, g, S, p⟩ => ?_⟩
  refine attr_of hb (thn (he.run pins s σ H (fun v H1 => ∃ (a C dx : Addr) (w : V), v = .ref a ∧ H1 a = some (exv a C dx) ∧ H1 dx = some (.xd [("value", w)]) ∧ ExK X.K C ∧ Q w H1) I ⟨F, en, g, S, (Post.bind p).mono fun x g1 F1 H1 x1 c1 p1 v r1 => ?_⟩) fun u s1 hh => ?_)
  · obtain ⟨d, hd, kk⟩ := post_of p1
    cases x with
    | exc c y =>
      have hd : (if c < NE then some y else none) = some d := hd
      split at hd
      · rename_i hc
        cases hd
        obtain ⟨a, dx, w, rfl, h1, _, h2, _, rw⟩ := r1
        exact ⟨a, _, dx, w, rfl, h1, h2, by rw [hK]; exact T c hc, kk F1 H1 .refl c1 w rw⟩
      · cases hd
    | _ => cases hd
  · obtain ⟨v, H1, I1, rv, a, C, dx, w, rfl, e1, e2, K1, q⟩ := hh
    obtain rfl : u = Value.ref a := rv
    obtain ⟨oe, od, J, mA, hr, hl⟩ := exv_inst I1 e1 e2
    obtain ⟨u, hu, ru⟩ := RelO.some_of (v := w) (o := mA "value") (by
      have := hr "value"
      exact this)
    exact HandSPX.exc_get I1.kIn J K1.ga K1.gg K1.ex (PySem.W.findObj_own K1.hd K1.no rfl (by rw [hl, hu])) (handed_of ru) ⟨w, H1, I1.tok _, ru, q⟩
end
end Ev

/-! Ev59: a law's end where its defs make lambdas. -/
namespace Ev
open PySem PySem.Spec PyProof.Rows L2
def tblG (n : Nat) : List Cell := (List.range n).map Cell.tbl
theorem law_goT {P : Program} {w : World} {W : Wd} {mg mb : Str → Option Value} {CX : CXT} {k : Nat} {fa l : Addr} {fd : FuncData} {x : Str} {fs : List D → List Cell → R D} {s : Shared} {vs : List Value} {ns : List Int} {cs : List (Addr × Addr)}
    (KX : W.K.In s.heap) (n1 : s.heap.Ns mainGlobals mg) (n2 : s.heap.Ns builtinsNs mb) (n3 : ∀ x : Str, x ≠ "__name__" → mb x = bootBuiltins x) (n4 : s.heap.NoLimit) (n5 : s.gens = #[])
    (hT : ∀ p ∈ cs, s.heap.get? p.2 = some { cls := .none, data := .fields #[] }) (nT : ∀ p ∈ cs, W.K.lookup p.2 = none) (C : ∀ p ∈ cs, PySem.W.CodeHd s.heap p.1 p.2) (nd : (cs.map (·.2)).Nodup) (hW : ∀ i p, cs[i]? = some p → W.tb i = p.2)
    (hbm : ∃ (bm : Addr) (ob : Obj), mg "__builtins__" = some (.ref bm) ∧ bm ≠ builtinsNs ∧ s.heap.get? bm = some ob ∧ ob.cls = .type "module" ∧ ob.dict = some builtinsNs ∧ ob.data = .plain)
    (hl : s.heap.get? l = some { cls := .type "list", data := .seq vs.toArray }) (hi : IntsAre vs ns) (hz : ns.length ≤ sizeLine) (hr : Room k callerA)
    (G : ∀ base : Heap, W.K.In base → base.Ns mainGlobals mg → (∀ p ∈ cs, LamX.TabB base mg p.1 p.2) → FnG P w W.K mg base CX k fa fd [x] (spEv W 1 fs)) (bd : ∀ (s : Shared) (u : Value), BindsTo s fd ⟨[u], []⟩ [(x, u)])
    (hf : ∃ g, fs [.sc ns] (tblG cs.length) = .ok (.bl true) g) (hx : ∀ H e s', CX [] H s (fun _ _ _ => False) e s' → False) :
    codeAny (model P w) callerA (.call (.ref fa) ⟨[.ref l], []⟩) (fun r s' => r = .ok (.ret (.bool true)) ∧ OldK s.heap s'.heap ∧ s'.os = s.os ∧ AllBare s'.gens) s := by
  have rv := vals_ints hi
  obtain ⟨g0, hf⟩ := hf
  have isT : ∀ b : Addr, b ∈ cs.map (·.2) → s.heap.get? b = some { cls := .none, data := .fields #[] } := fun b hb => by
    obtain ⟨p, hp, rfl⟩ := List.mem_map.mp hb
    exact hT p hp
  have lT : l ∉ cs.map (·.2) := fun z => by
    have q := isT l z
    rw [hl] at q
    have q2 : Data.seq vs.toArray _ = Data.fields #[] := congrArg Obj.data (Option.some.inj q)
    cases q2
  -- over an abstract heap that tracks the tables, and the script or nothing
  have main : ∀ H : Hp, (∀ b, b ∈ cs.map (·.2) → H b = some (.tbl #[])) → (∀ b, H b = none ∨ b ∈ cs.map (·.2) ∨ ∃ o xs, H b = some (.frz o (.lst xs))) → ScAt W ⟨[], [], cs.map (·.2)⟩ H l ns → HOk P w H s.heap → (∀ b, H b ≠ none → b = l ∨ b ∈ cs.map (·.2)) → (H l ≠ none → W.K.lookup l = none) →
      codeAny (model P w) callerA (.call (.ref fa) ⟨[.ref l], []⟩) (fun r s' => r = .ok (.ret (.bool true)) ∧ OldK s.heap s'.heap ∧ s'.os = s.os ∧ AllBare s'.gens) s := by
    intro H tbs only sc ok own apart
    have there : ∀ {b : Addr} {o : Obj}, s.heap.get? b = some o → H b = none → (hidT s.heap H).get? b = some o := fun h1 h2 => hidT_get h1 h2
    have free : ∀ {b : Addr} {o : Obj}, s.heap.get? b = some o → (∀ vs n, o.data ≠ .seq vs n) → o.data ≠ .fields #[] → H b = none := fun {b o} e h1 h2 => by
      cases q : H b with
      | none => rfl
      | some u =>
        rcases own b (by rw [q]; simp) with y | y
        · subst y
          rw [hl] at e
          cases e
          exact (h1 _ _ rfl).elim
        · rw [isT b y] at e
          cases e
          exact (h2 rfl).elim
    have nodict : ∀ {b : Addr} {o : Obj} {es : Array DictEntry} {ep : Nat}, s.heap.get? b = some o → o.data = .dict es ep → H b = none := fun {b o es ep} e d =>
      free e (fun vs n z => by rw [d] at z; cases z) fun z => by rw [d] at z; cases z
    have names : ∀ {b : Addr} {m : Str → Option Value}, s.heap.Ns b m → (hidT s.heap H).Ns b m := fun {b m} ⟨o, es, ep, h1, h2, h3⟩ => ⟨o, es, ep, there h1 (nodict h1 h2), h2, h3⟩
    have kin : W.K.In (hidT s.heap H) := fun b o h => there (KX b o h) (by
      cases q : H b with
      | none => rfl
      | some u =>
        rcases own b (by rw [q]; simp) with y | y
        · subst y
          have := apart (by rw [q]; simp)
          rw [this] at h; cases h
        · obtain ⟨p, hp, ep⟩ := List.mem_map.mp y
          have := nT p hp
          rw [ep, h] at this; cases this)
    have modl : Mod W.K mg (hidT s.heap H) := ⟨kin, names n1, ⟨mb, names n2, n3⟩, by
      obtain ⟨mc, z1, z2⟩ := n4
      exact ⟨mc, names z1, z2⟩⟩
    have TB : ∀ p ∈ cs, LamX.TabB (hidT s.heap H) mg p.1 p.2 := fun p hp => by
      have hTp := hT p hp
      refine ⟨?_, ?_, fun z => ?_⟩
      · obtain ⟨o, us, file, tf, flags, tg, inF, text, tt, e1, r1, r2, r3, rest⟩ := C p hp
        exact ⟨o, us, file, tf, flags, tg, inF, text, tt, there e1 (free e1 (fun vs n z => by rw [r2] at z; cases z) fun z => by
          rw [r2] at z
          cases z
          simp at r3), r1, r2, r3, rest⟩
      · obtain ⟨bm, ob, b1, b2, b3, b4, b5, b6⟩ := hbm
        refine ⟨bm, ob, b1, b2, fun q => ?_, fun q => ?_, there b3 (free b3 (fun vs n z => by rw [b6] at z; cases z) fun z => by rw [b6] at z; cases z), b4, b5, b6⟩
        · obtain ⟨o, es, ep, e, hd, _⟩ := n1
          rw [q, e] at b3
          cases b3
          rw [hd] at b6
          cases b6
        · rw [q, hTp] at b3
          cases b3
          cases b6
      · obtain ⟨o, es, ep, e, hd, _⟩ := n1
        rw [z, hTp] at e
        cases e
        cases hd
    have env0 : Env0 P w W.K mg (hidT s.heap H) callerA [] s H := ⟨rfl, modl, fun _ _ h => of_hidT h, Nat.le_of_eq (hidT_size _ _), trivial, fun _ hb => absurd hb (by simp [frs]), ok, .of_eq n5⟩
    have prom : spEv W 1 fs [.ref l] H (fun v _ => v = .bl true) fun _ _ _ => False := by
      refine ⟨[], cs.map (·.2), [.sc ns], tblG cs.length, ⟨nd, by simp [tblG], fun n a c h1 h2 => ?_, fun a h => ?_, fun a h => ⟨by simp, by simp⟩, fun a h => (List.not_mem_nil h).elim⟩, ⟨.ref l, [], rfl, ⟨l, rfl, sc⟩, rfl⟩, rfl, ?_⟩
      · rw [List.getElem?_map] at h1
        cases q : cs[n]? with
        | none => rw [q] at h1; cases h1
        | some p =>
          rw [q] at h1
          cases h1
          have hn : n < cs.length := (List.getElem?_eq_some_iff.mp q).1
          have h3 : (tblG cs.length)[n]? = some (.tbl n) := by
            unfold tblG
            rw [List.getElem?_map, List.getElem?_range hn]
            rfl
          rw [h3] at h2
          cases h2
          exact ⟨(hW n p q).symm, #[], tbs _ (List.mem_map.mpr ⟨p, List.mem_of_getElem? q, rfl⟩), True.intro, fun pos cv hc => by
            have z : codeAmong pos [] = some cv := hc
            simp [codeAmong] at z⟩
      · rcases h with h | h | h
        · cases h
        · cases h
        · exact ⟨_, tbs a h⟩
      · rw [hf]
        exact fun F' H' _ _ v r => r
    refine codeAny_mono ((G _ kin (names n1) TB).go callerA [] s H ⟨[.ref l], []⟩ [.ref l] [.ref l] _ _ rfl hr env0 (bd s (.ref l)) (.cons rfl .nil) prom) fun r s' z => ?_
    rcases r with er | fl
    · exact (hx H er s' z).elim
    cases fl with
    | next => exact z.elim
    | brk => exact z.elim
    | cont => exact z.elim
    | ret u =>
      obtain ⟨v, H', z1, z2, z3, z4, z5, z6⟩ := z
      cases (show v = .bl true from z6)
      cases (show u = Value.bool true from z5)
      have grown : ∀ b ∈ cs.map (·.2), ∃ more : Array Value, s'.heap.get? b = some { cls := .none, data := .fields more } := fun b hb => by
        obtain ⟨more, y⟩ := z3.tbls b #[] (tbs b hb)
        exact ⟨_, z4 b _ y⟩
      have key : ∀ b o, b ∉ cs.map (·.2) → s.heap.get? b = some o → s'.heap.get? b = some o := fun b o nb h => by
        cases q : H b with
        | none => exact z3.keep b o h q (by simp [frs]) (by simp)
        | some u =>
          rcases only b with y | y | ⟨ob, xs, y⟩
          · rw [q] at y; cases y
          · exact absurd y nb
          · obtain ⟨y1, _⟩ := ok b _ y
            obtain ⟨y2, _⟩ := z4 b _ (z3.frzs b ob _ y)
            rw [h] at y1
            cases y1
            exact y2
      refine ⟨rfl, ⟨fun b o h => ?_, fun b o h => ?_⟩, z1, z2⟩
      · by_cases hb : b ∈ cs.map (·.2)
        · obtain ⟨p, hp, ep⟩ := List.mem_map.mp hb
          obtain ⟨more, hm⟩ := grown b hb
          have ho := isT b hb
          rw [h] at ho
          cases ho
          rw [← ep] at hm ⊢
          exact .inr (.inl ⟨((C p hp).tab (hT p hp)).isCodeTable, rfl, #[], more, rfl, by rw [Array.empty_append]; exact hm⟩)
        · exact .inl (key b o hb h)
      · by_cases hb : b ∈ cs.map (·.2)
        · obtain ⟨more, hm⟩ := grown b hb
          exact ⟨_, hm⟩
        · exact ⟨o, key b o hb h⟩
  have nhas : ¬ (⟨[], [], cs.map (·.2)⟩ : Fb).has l := fun z => by
    rcases z with z | z | z
    · cases z
    · cases z
    · exact lT z
  cases hk : W.K.lookup l with
  | none =>
    have eT : ∀ b, b ∈ cs.map (·.2) → (if b = l then some (HO.frz { cls := .type "list", data := .seq vs.toArray } (.lst (ns.map V.int))) else if b ∈ cs.map (·.2) then some (.tbl #[]) else none) = some (.tbl #[]) := fun b hb => by
      rw [if_neg (fun z => lT (by rw [← z]; exact hb)), if_pos hb]
    refine main (fun b => if b = l then some (.frz { cls := .type "list", data := .seq vs.toArray } (.lst (ns.map V.int))) else if b ∈ cs.map (·.2) then some (.tbl #[]) else none) eT (fun b => ?_) (.inl ⟨⟨_, if_pos rfl⟩, nhas⟩) (fun b u z => ?_) (fun b z => ?_) fun _ => hk
    · by_cases q : b = l
      · exact .inr (.inr ⟨_, _, if_pos q⟩)
      · by_cases q2 : b ∈ cs.map (·.2)
        · exact .inr (.inl q2)
        · exact .inl ((if_neg q).trans (if_neg q2))
    · by_cases q : b = l
      · have y := (if_pos q).symm.trans z
        cases y
        subst q
        exact ⟨hl, by rw [List.length_map]; exact hz, vs, _, rv, hl⟩
      · by_cases q2 : b ∈ cs.map (·.2)
        · have y := (eT b q2).symm.trans z
          cases y
          exact isT b q2
        · have y := ((if_neg q).trans (if_neg q2)).symm.trans z
          cases y
    · by_cases q : b = l
      · exact .inl q
      · by_cases q2 : b ∈ cs.map (·.2)
        · exact .inr q2
        · exact absurd ((if_neg q).trans (if_neg q2)) z
  | some o =>
    have y := KX l o hk
    rw [hl] at y
    cases y
    refine main (fun b => if b ∈ cs.map (·.2) then some (.tbl #[]) else none) (fun b hb => if_pos hb) (fun b => ?_) (.inr ⟨_, vs.toArray, _, hk, rfl, rfl, rfl, by rw [List.size_toArray, hi.length]; exact hz, by simpa using rv⟩) (fun b u z => ?_) (fun b z => ?_) fun z => absurd (if_neg lT) z
    · by_cases q2 : b ∈ cs.map (·.2)
      · exact .inr (.inl q2)
      · exact .inl (if_neg q2)
    · by_cases q2 : b ∈ cs.map (·.2)
      · have y := (if_pos q2).symm.trans z
        cases y
        exact isT b q2
      · have y := (if_neg q2).symm.trans z
        cases y
    · by_cases q2 : b ∈ cs.map (·.2)
      · exact .inr q2
      · exact absurd (if_neg q2) z
/-- a law row's end, xs the names of the defs that make lambdas -/
theorem law_endT {l : PySem.W.OpenLaw} {n k : Nat} {q : Program} {loose : List Str} {XP : (Str → Option Value) → Heap → Prop} {YP : World → Heap → Prop} {d : DefRec} {CX : CXT} {x : Str} {fs : List D → List Cell → R D} (xs : List Str)
    (hn : l.most = some n) (hn2 : n ≤ sizeLine) (hdf : d.params.defaults = []) (hr : Room k callerA) (hrec : (xs.all fun x => ((recsOf q).find? fun e => e.name == x).isSome) = true)
    (hF : ∀ (w : World) (mg : Str → Option Value) (fa : Addr) (h : Heap), YP w h → h.Ns mainGlobals mg → mg d.name = some (.ref fa) →
      ∃ (W : Wd) (fd : FuncData) (cs : List (Addr × Addr)), W.K.In h ∧ (∀ (s : Shared) (u : Value), BindsTo s fd ⟨[u], []⟩ [(x, u)]) ∧ cs.length = xs.length ∧ (∀ i x p, xs[i]? = some x → cs[i]? = some p → PySem.W.tabIn W.K x = some p ∧ W.tb i = p.2) ∧ (cs.map (·.2)).Nodup ∧ (∀ p ∈ cs, W.K.lookup p.2 = none) ∧
        ∀ base : Heap, W.K.In base → base.Ns mainGlobals mg → (∀ p ∈ cs, LamX.TabB base mg p.1 p.2) → FnG l.prog w W.K mg base CX k fa fd [x] (spEv W 1 fs))
    (hf : ∀ ns : List Int, ns.length ≤ n → ∃ g, fs [.sc ns] (tblG xs.length) = .ok (.bl true) g)
    (hx : ∀ (H : Hp) (s : Shared) (e : Value) (s' : Shared), CX [] H s (fun _ _ _ => False) e s' → False) : PySem.W.WalkO q loose XP YP l.row.toRowW d [] (fun f vs => PySem.call f vs) := by
  refine Att.attach_callB hn hdf fun w s₀ s₁ mg mb fa o pm cd doc a vs ns G Y ho hd hcd hmg hobj hints hlen hbits hg => ?_
  obtain ⟨W, fd, cs, KX, bd, hlen2, hcs, nd, nT, hG⟩ := hF w mg fa _ Y G.T.g hmg
  have at_ : ∀ p ∈ cs, ∃ (i : Nat) (x : Str), xs[i]? = some x ∧ cs[i]? = some p := fun p hp => by
    obtain ⟨i, hi, e⟩ := List.getElem_of_mem hp
    exact ⟨i, xs[i]'(by omega), List.getElem?_eq_getElem _, by rw [List.getElem?_eq_getElem hi, e]⟩
  have tabs : ∀ p ∈ cs, PySem.W.CodeHd s₁.heap p.1 p.2 ∧ s₁.heap.get? p.2 = some (PySem.W.tabObj #[]) := fun p hp => by
    obtain ⟨i, x, h1, h2⟩ := at_ p hp
    obtain ⟨h3, _⟩ := hcs i x p h1 h2
    obtain ⟨e, he⟩ := Option.isSome_iff_exists.mp (List.all_eq_true.mp hrec x (List.mem_of_getElem? h1))
    exact PySem.W.tab_of G.T KX he h3
  refine law_goT KX G.T.g G.T.b G.T.builtins G.T.nolimit hg (fun p hp => (tabs p hp).2) nT (fun p hp => (tabs p hp).1) nd (fun i p hp => ?_) G.T.bmain hobj hints (Nat.le_trans hlen hn2) hr hG bd (by rw [hlen2]; exact hf ns hlen) fun H e s' => hx H s₁ e s'
  have hi := (List.getElem?_eq_some_iff.mp hp).1
  exact (hcs i (xs[i]'(by omega)) p (List.getElem?_eq_getElem _) hp).2
end Ev

/-! Ev60: {} and {"a": v} as data. -/
namespace Ev
open PySem PySem.Spec PyProof.Rows L2
section
variable {W : Wd} {E : XK} {X : Cx} {e : Expr} {me : M D} {pos : Pos}
theorem ev_da0 : PE X (.Dict [] [] pos) (tM W E (conM (.da []))) := weakE pe_dnewK fun σ H Q ⟨F, e, g, S, p⟩ a na =>
  p F _ (Xe.new na) (S.cells.new na) _ ⟨a, [], rfl, .inl upd_same, S.cells.none na, rfl⟩
/-- {"a": x} -/
def daM (i : Nat) : M D := fun e g => (varM i e g).bind fun d g1 => .ok (.da [d]) g1
theorem ev_da1 {k1 i : Nat} {x : Str} {p1 p2 : Pos} (hN : X.N[i]? = some x := by rfl) (hv : Vis X.env.scope x := by first | exact Or.inl rfl | exact Or.inr (Or.inl rfl) | exact Or.inr (Or.inr rfl)) (hd : (x == ("__debug__" : Str)) = false := by decide) (hcd : (x == ("__classdict__" : Str)) = false := by decide) :
    PE X (.Dict [some (.Constant (.str "a") k1 p1)] [.Name x p2] pos) (tM W E (daM i)) := by
  refine weakE (pe_disp (pps_cons pe_str (pe_var hN hv hd hcd) pps_nil) rfl rfl (by simp) (Nat.le_of_ble_eq_true rfl)) fun σ H Q ⟨F, en, g, S, p⟩ a na => ?_
  obtain ⟨d, hi, p⟩ : ∃ d, en[i]? = some (.v d) ∧ ∀ F' H', Xe F F' H H' → Cells W F' H' g → ∀ v, Rep W F' H' (.da [d]) v → Q v H' := by
    unfold daM varM at p
    revert p
    split
    · rename_i d hd
      exact fun p => ⟨d, hd, p⟩
    · exact fun p => p.elim
  obtain ⟨v, h1, h2⟩ := S.slots i d hi
  refine ⟨v, h1, upd_same, [dka v], rfl, Nat.le_of_ble_eq_true rfl, ?_⟩
  rw [show mergeK [] [dka v] = [v].map dka from rfl, upd_upd]
  exact p F _ (Xe.new na) (S.cells.new na) _ ⟨a, [v], rfl, .inl upd_same, S.cells.none na, v, [], rfl, h2.up (Xe.new na).up, rfl⟩
end
end Ev

/-! Ev61: a def that makes lambdas: its code object is known. -/
namespace Ev
open PySem PySem.Spec PyProof.Rows L2 NdefX
theorem fnL_ev {P : Program} {w : World} {mg : Str → Option Value} {base : Heap} {W : Wd} {k n m : Nat} {x qual : Str} {st : Stmt} {f c : Addr} {fd : FuncData} {N ps : List Str} {body : MS} (F : Fun W.K x qual st f fd) (hc : fd.code = .ref c) (S : FnScope N ps (defScope st)) (hn : ps.length = n) (hm : N.length = m)
    (h : ∀ (A : Around) (out : List PySem.Env) (s : Shared) (H : Hp) (E : XK), (A.deeper (envOfC qual (defScope st) s.heap.objs.size f (.ref c))).guards = some [] → Room k (A.deeper (envOfC qual (defScope st) s.heap.objs.size f (.ref c))) →
      PSs (cxOf CX0 P w W.K mg base N qual (defScope st) f (.ref c) A out s H E).nox (defBody st) (tMS W E body)) : FnG P w W.K mg base CX0 (k + 1) f fd ps (spEv W n (fnM n m body)) := by
  subst hn hm
  obtain ⟨oc, od, kV, doc, pm, an, cdv, ct, osl, rfl, lk, hcd⟩ := F.ex
  obtain rfl : cdv = .ref c := hc
  refine fnG_of lk hcd S (fun vs H Q E q => spEv_len q) fun A out s H vs Q E hg hr hsp => ⟨_, (h A out s H E hg hr).nox, ?_⟩
  obtain ⟨nu, th, ds, g, c, r, hl, p⟩ := hsp
  have S0 := st_start (N := N) c r
  rw [hl] at S0
  unfold fnM at p
  rw [if_pos hl] at p
  exact ⟨_, _, g, S0, fn_post p⟩
end Ev

/-! Ev63: an __init__ with keywords that lets exceptions out. -/
namespace Ev
open PySem PySem.Spec PyProof.Rows L2 NdefX
theorem in_plainX {P : Program} {w : World} {mg : Str → Option Value} {base : Heap} {W : Wd} {k c n : Nat} {x0 qual fld : Str} {st : Stmt} {f : Addr} {fd : FuncData} {N ps : List Str} {kws : List (Str × V)} {t : M Bool} {r : MS} {m : M D} {cnd e : Expr} {rs : List Stmt} {p1 p2 p3 p4 : Pos}
    (F : FunD W.K x0 qual (defArgs st) (defBody st) (defScope st) [] kws f fd) (S : FnScope N ps (defScope st)) (hn : ps.length = n) (hN : N[0]? = some ("self" : Str))
    (hbody : defBody st = [.If cnd rs [] p1, .Assign [.Attribute (.Name "self" p2) fld p3] e p4]) (K : ObOk W c fld)
    (h : ∀ (cdv : Value) (A : Around) (out : List PySem.Env) (s : Shared) (H : Hp) (E : XK), (A.deeper (envOfC qual (defScope st) s.heap.objs.size f cdv)).guards = some [] → Room k (A.deeper (envOfC qual (defScope st) s.heap.objs.size f cdv)) →
      Takes (cxOf (L2.CX P w) P w W.K mg base N qual (defScope st) f cdv A out s H E) (fun cls d _ H => E cls d H) →
      PT (cxOf (L2.CX P w) P w W.K mg base N qual (defScope st) f cdv A out s H E) cnd (tB W E t) ∧ PSs (cxOf (L2.CX P w) P w W.K mg base N qual (defScope st) f cdv A out s H E) rs (tMS W E r) ∧ PE (cxOf (L2.CX P w) P w W.K mg base N qual (defScope st) f cdv A out s H E) e (tM W E m) ∧
      Vis (cxOf (L2.CX P w) P w W.K mg base N qual (defScope st) f cdv A out s H E).env.scope "self" ∧ swapsWith e (some (.Attribute (.Name "self" p2) fld p3)) p4.line (cxOf (L2.CX P w) P w W.K mg base N qual (defScope st) f cdv A out s H E).env = pure false) :
    FnG P w W.K mg base (L2.CX P w) (k + 1) f fd ps (spIn W c (inP n (inM N.length t r m))) := by
  subst hn
  obtain ⟨oc, od, dV, kV, doc, pm, an, cdv, ct, osl, rfl, lk, hcd, _, _⟩ := F.ex
  refine fnG_of lk hcd S (fun vs H Q E q => spIn_len q) fun A out s H vs Q E hg hr ⟨x, dx, rest, nu, th, ds, g, ev, hx, hxn, cc, rr, p⟩ => ?_
  subst ev
  unfold inP at p
  obtain ⟨hl, p⟩ := post_ite (g := g) p
  obtain ⟨d1, d2, d3, d4, d5⟩ := h cdv A out s H E hg hr (takes_of rfl rfl rfl rfl)
  have S0 := inE_st (N := N) (x := x) cc rr (List.getElem?_eq_some_iff.mp hN).1
  obtain ⟨tt, h1, h2⟩ := in_body (p1 := p1) (Q := Q) (dx := dx) hN d4 d1 d2 d3 d5 K.cls K.no K.fd S0 (by
    show ((V.ref x :: rest).map some ++ _)[0]? = _
    rfl) hx hxn p
  exact ⟨tt, by rw [hbody]; exact h1, h2⟩
end Ev

/-! Ev64: == of two tuples that their first items decide: a text and None. -/
namespace PySem.SeqAt
open AutoSeq1 (wpAny_loadPart')
open MeetsSeq MeetsSeq2 MeetsSeq3 SeqRoads2
theorem ev_tuple_eqFst {prog : Program} {w : World} (l b : Addr) (x y : Value) (xs ys : List Value) (n n2 : Nat) (dd dd2 : Option Addr) (sl sl2 : Array (Option Value)) :
    MeetsIn prog w (Builtin.«tuple.__eq__» ⟨[.ref l, .ref b], []⟩)
      (fun A R s => s.heap.get? l = some { cls := .type "tuple", dict := dd, data := .seq (x :: xs).toArray n, slots := sl } ∧ s.heap.get? b = some { cls := .type "tuple", dict := dd2, data := .seq (y :: ys).toArray n2, slots := sl2 } ∧
        EqIn prog w A.in1 s x y false ∧ R (.ok (.ret (.bool false))) s) :=
  .of_wp fun A R s h => by
    obtain ⟨hp, g, d, tk, os⟩ := s; obtain ⟨hl, hb, he, h⟩ := h
    have f2 := AutoSeq1.sub_tuple_tuple
    wp_walk using wpAny_loadPart' hl, wpAny_loadPart' hb, wpAny_forIn_list _ (fun rest b s' => b.1 = none ∧ s' = ⟨hp, g, d, tk, os⟩ ∧ rest = ((x :: xs).toArray.toList.zip (y :: ys).toArray.toList)) _
    case turn =>
      rintro ⟨y', x'⟩ rest b s' ⟨hb', rfl, hz⟩
      have hz : (y', x') :: rest = (x, y) :: xs.zip ys := hz
      injection hz with h1 h2
      have e1 : y' = x := congrArg Prod.fst h1
      have e2 : x' = y := congrArg Prod.snd h1
      subst e1 e2
      refine wpAny_bind (he _ _ ?_)
      wp_walk
      exact ⟨_, rfl, h⟩
    case fin =>
      rintro ⟨b1, b2⟩ s' ⟨hb', rfl, hz⟩
      have hz : [] = (x, y) :: xs.zip ys := hz
      cases hz
    case h =>
      exact ⟨rfl, rfl, rfl⟩
theorem ev_rcFst {prog : Program} {w : World} {A : Around} {s : Shared} {E : Value → Shared → Prop} {l b : Addr} {x y : Value} {xs ys : List Value} {Q : Value → Shared → Prop} (hl : s.heap.IsTuple l (x :: xs).toArray) (hb : s.heap.IsTuple b (y :: ys).toArray) (hu : A.units < cLine)
    (he : EqIn prog w A.in1 s x y false) (h : Q (.bool false) s) : wpAny (model prog w) A (richCompare .Eq (.ref l) (.ref b)) Q E s := by
  obtain ⟨⟨cls, dd, data, sl⟩, ho, hc, n, hd⟩ := id hl
  obtain ⟨⟨cls2, dd2, data2, sl2⟩, ho2, hc2, n2, hd2⟩ := id hb
  simp only at hc hd hc2 hd2
  subst hc hd hc2 hd2
  exact wpAny_richCompare_same_room (T := "tuple") (op := .Eq) ⟨_, ho, rfl⟩ ⟨_, ho2, rfl⟩ F.slot_tuple_eq (call_meetsIn F.slot_tuple_eq ⟨_, ho, rfl⟩ F.entry_tuple_eq (F.args_tuple_eq_2 _ _) (ev_tuple_eqFst l b x y xs ys n n2 dd dd2 sl sl2)
    ⟨ho, ho2, he, show Value.bool false ≠ Value.notImplemented ∧ Q (.bool false) s from ⟨(fun x => nomatch x), h⟩⟩) hu
end PySem.SeqAt
namespace Ev
open PySem PySem.Spec PyProof.Rows L2 NdefX
/-- a text against None at the first place of two tuples -/
def eqF : D → D → List Cell → Option D := fun x y _ => match x, y with
  | .tup (.str _ :: _), .tup (.non :: _) => some (.bl false)
  | _, _ => none
def rEqF (K : PySem.W.Frag) : R2 := fun x y H Q => ∃ (a b : Addr) (t : Str) (xs ys : List V), x = .ref a ∧ y = .ref b ∧ SqT K H a (.str t :: xs) ∧ SqT K H b (.non :: ys) ∧ Q (.bl false) H
theorem op_eqF {X : Cx} (hu : X.A.units + 64 < cLine) : OpR X (compareOp .Eq) (rEqF X.K) := by
  intro pins s σ H x y v u Q I rx ry h
  obtain ⟨a, b, t, xs, ys, rfl, rfl, ha, hb, q⟩ := h
  obtain rfl : v = Value.ref a := rx
  obtain rfl : u = Value.ref b := ry
  obtain ⟨i1, r1, p1, _⟩ := I.tuple ha
  obtain ⟨i2, r2, p2, _⟩ := I.tuple hb
  obtain ⟨u0, us, rfl, r0⟩ : ∃ u0 us, i1 = u0 :: us ∧ RelV (.str t) u0 := by
    cases r1 with
    | cons h _ => exact ⟨_, _, rfl, h⟩
  obtain ⟨w0, ws, rfl, s0⟩ : ∃ w0 ws, i2 = w0 :: ws ∧ RelV .non w0 := by
    cases r2 with
    | cons h _ => exact ⟨_, _, rfl, h⟩
  obtain ⟨tok, rfl⟩ := r0
  obtain rfl : w0 = Value.none := s0
  exact SeqAt.ev_rcFst p1 p2 (by omega) (SeqAt.EqAt.inModel (SeqAt.EqAt.str_none t tok) _ _) ⟨.bl false, H, I, rfl, q⟩
variable {W : Wd} {X : Cx}
theorem rf_eqF : RF W eqF (rEqF W.K) := by
  intro F H g x y d v u Q c rx ry e k
  unfold eqF at e
  split at e
  · cases e
    obtain ⟨a, vs, rfl, ta, ra⟩ := rx
    obtain ⟨b, us, rfl, tb, rb⟩ := ry
    obtain ⟨v0, vr, rfl, h0, _⟩ := ra
    obtain ⟨u0, ur, rfl, h1, _⟩ := rb
    cases (show v0 = _ from h0)
    cases (show u0 = V.non from h1)
    exact ⟨a, b, _, vr, ur, rfl, rfl, ta.seq, tb.seq, k H _ (fun _ _ h => h) c (rep_bl _)⟩
  · cases e
def eqT : D → D → List Cell → Option D := orF eqF eqA
theorem bl_eqF (x y : D) (g : List Cell) (d : D) (h : eqF x y g = some d) : ∃ b, d = .bl b := by
  unfold eqF at h
  split at h <;> cases h
  exact ⟨_, rfl⟩
theorem c_eqT (hK : X.K = W.K) (hu : X.A.units + 64 < cLine) : CmpOk W X .Eq eqT := by
  obtain ⟨⟨r, h1, h2⟩, h3, h4⟩ := c_eqP (W := W) hK hu
  exact ⟨⟨_, (op_eqF hu).or h1, RF.or (show RF W eqF (rEqF X.K) from by rw [hK]; exact rf_eqF) h2⟩, bl_or bl_eqF h3, h4⟩
end Ev

/-! Wp: plain laws of the evaluator's words: what a run gives, told by what is wanted behind it. -/
namespace Ev
open PySem L2
/-- a value comes, and of it P -/
def WR {α : Type} (r : R α) (P : α → List Cell → Prop) : Prop := match r with
  | .ok a g => P a g
  | _ => False
/-- a statement ends: N on, T by a return, B, C by break and continue -/
def WS (r : RS) (N : Env → List Cell → Prop) (T : D → List Cell → Prop) (B C : Env → List Cell → Prop) : Prop := match r with
  | .nx e g => N e g
  | .rt d g => T d g
  | .bk e g => B e g
  | .ct e g => C e g
  | _ => False
theorem WR.ex {α : Type} {r : R α} {P : α → List Cell → Prop} (h : WR r P) : ∃ a g, r = .ok a g ∧ P a g := by
  cases r with
  | ok a g => exact ⟨a, g, rfl, h⟩
  | ex c d g => exact h.elim
  | bad => exact h.elim
theorem WR.of {α : Type} {r : R α} {a : α} {g : List Cell} {P : α → List Cell → Prop} (h : r = .ok a g) (p : P a g) : WR r P := by rw [h]; exact p
theorem WR.mono {α : Type} {r : R α} {P Q : α → List Cell → Prop} (h : WR r P) (k : ∀ a g, P a g → Q a g) : WR r Q := by
  cases r with
  | ok a g => exact k a g h
  | ex c d g => exact h.elim
  | bad => exact h.elim
theorem WR.eqv {r : R D} {v : D} {g0 : List Cell} {Q : D → List Cell → Prop} (h : WR r fun d g => g = g0 ∧ d = v) (k : Q v g0) : WR r Q := h.mono fun d g e => by obtain ⟨e1, e2⟩ := e; subst e1; subst e2; exact k
theorem WR.bind {α β : Type} {r : R α} {f : α → List Cell → R β} {P : β → List Cell → Prop} (h : WR r fun a g => WR (f a g) P) : WR (r.bind f) P := by
  cases r with
  | ok a g => exact h
  | ex c d g => exact h.elim
  | bad => exact h.elim
theorem WS.toS {α : Type} {r : R α} {f : α → List Cell → RS} {N : Env → List Cell → Prop} {T : D → List Cell → Prop} {B C : Env → List Cell → Prop} (h : WR r fun a g => WS (f a g) N T B C) : WS (r.toS f) N T B C := by
  cases r with
  | ok a g => exact h
  | ex c d g => exact h.elim
  | bad => exact h.elim
theorem WS.mono {r : RS} {N N' : Env → List Cell → Prop} {T T' : D → List Cell → Prop} {B B' C C' : Env → List Cell → Prop} (h : WS r N T B C) (hn : ∀ e g, N e g → N' e g) (ht : ∀ d g, T d g → T' d g) (hb : ∀ e g, B e g → B' e g) (hc : ∀ e g, C e g → C' e g) : WS r N' T' B' C' := by
  cases r with
  | nx e g => exact hn _ _ h
  | rt d g => exact ht _ _ h
  | bk e g => exact hb _ _ h
  | ct e g => exact hc _ _ h
  | ex c d g => exact h.elim
  | bad => exact h.elim
theorem WS.eqv {r : RS} {e1 : Env} {g1 : List Cell} {N : Env → List Cell → Prop} {T : D → List Cell → Prop} {B C : Env → List Cell → Prop} (h : WS r (fun e g => g = g1 ∧ e = e1) (fun _ _ => False) (fun _ _ => False) (fun _ _ => False)) (k : N e1 g1) : WS r N T B C :=
  h.mono (fun e g ⟨h1, h2⟩ => by subst h1; subst h2; exact k) (fun _ _ h => h.elim) (fun _ _ h => h.elim) (fun _ _ h => h.elim)
section
variable {e : Env} {g : List Cell} {P : D → List Cell → Prop} {PB : Bool → List Cell → Prop} {PL : List D → List Cell → Prop} {a b c : M D} {m : M (List D)} {t u : M Bool} {f f' : D → D → List Cell → Option D}
/-! ### expressions -/
theorem wp_con {d : D} (h : P d g) : WR (conM d e g) P := h
theorem wp_var {i : Nat} {d : D} (hi : e[i]? = some (.v d)) (h : P d g) : WR (varM i e g) P := by unfold varM; rw [hi]; exact h
theorem wp_seeV {i : Nat} {d : D} (hi : e[i]? = some (.v d)) (h : P d g) : WR (seeM i e g) P := by unfold seeM; rw [hi]; exact h
theorem wp_seeO {i : Nat} {ds : List D} (hi : e[i]? = some (.own ds)) (h : P (.lst ds) g) : WR (seeM i e g) P := by unfold seeM; rw [hi]; exact h
theorem wp_op (h : WR (a e g) fun x g1 => WR (b e g1) fun y g2 => ∃ d, f x y g2 = some d ∧ P d g2) : WR (opM f a b e g) P :=
  WR.bind (h.mono fun x g1 k => WR.bind (k.mono fun y g2 ⟨d, e, p⟩ => by rw [e]; exact p))
theorem wp_opI {C : Int → Int → Bool} {z : Int → Int → D} (h : WR (a e g) fun x g1 => WR (b e g1) fun y g2 => ∃ i j, x = .int i ∧ y = .int j ∧ C i j = true ∧ P (z i j) g2) : WR (opM (onI C z) a b e g) P :=
  wp_op (h.mono fun x g1 k => k.mono fun y g2 ⟨i, j, e1, e2, hc, p⟩ => ⟨z i j, by subst e1; subst e2; unfold onI; simp only; rw [if_pos hc], p⟩)
theorem wp_opI0 {z : Int → Int → D} (h : WR (a e g) fun x g1 => WR (b e g1) fun y g2 => ∃ i j, x = .int i ∧ y = .int j ∧ P (z i j) g2) : WR (opM (onI0 z) a b e g) P :=
  wp_op (h.mono fun x g1 k => k.mono fun y g2 ⟨i, j, e1, e2, p⟩ => ⟨z i j, by subst e1; subst e2; rfl, p⟩)
theorem wp_sub (h : WR (a e g) fun x g1 => WR (b e g1) fun y g2 => ∃ i j, x = .int i ∧ y = .int j ∧ P (.int (i - j)) g2) : WR (opM subD a b e g) P := wp_opI0 h
theorem wp_mod (h : WR (a e g) fun x g1 => WR (b e g1) fun y g2 => ∃ i j, x = .int i ∧ y = .int j ∧ 0 < j ∧ P (.int (i % j)) g2) : WR (opM modD a b e g) P :=
  wp_opI (h.mono fun x g1 k => k.mono fun y g2 ⟨i, j, e1, e2, hc, p⟩ => ⟨i, j, e1, e2, decide_eq_true hc, p⟩)
theorem wp_fdiv (h : WR (a e g) fun x g1 => WR (b e g1) fun y g2 => ∃ i j, x = .int i ∧ y = .int j ∧ (0 < j ∧ j < 340282366920938463463374607431768211456) ∧ P (.int (i / j)) g2) : WR (opM fdivD a b e g) P :=
  wp_opI (h.mono fun x g1 k => k.mono fun y g2 ⟨i, j, e1, e2, hc, p⟩ => ⟨i, j, e1, e2, decide_eq_true hc, p⟩)
theorem wp_pow (h : WR (a e g) fun x g1 => WR (b e g1) fun y g2 => ∃ i j, x = .int i ∧ y = .int j ∧ (0 ≤ j ∧ j ≤ 1000000 ∧ i.natAbs < 18446744073709551616) ∧ P (.int (i ^ j.toNat)) g2) : WR (opM powD a b e g) P :=
  wp_opI (h.mono fun x g1 k => k.mono fun y g2 ⟨i, j, e1, e2, hc, p⟩ => ⟨i, j, e1, e2, decide_eq_true hc, p⟩)
theorem wp_shl (h : WR (a e g) fun x g1 => WR (b e g1) fun y g2 => ∃ i j, x = .int i ∧ y = .int j ∧ (0 ≤ j ∧ j ≤ 1000000 ∧ i.natAbs < 18446744073709551616) ∧ P (.int (i * 2 ^ j.toNat)) g2) : WR (opM shlD a b e g) P :=
  wp_opI (h.mono fun x g1 k => k.mono fun y g2 ⟨i, j, e1, e2, hc, p⟩ => ⟨i, j, e1, e2, decide_eq_true hc, p⟩)
theorem wp_shr (h : WR (a e g) fun x g1 => WR (b e g1) fun y g2 => ∃ i j, x = .int i ∧ y = .int j ∧ 0 ≤ j ∧ P (.int (i / 2 ^ j.toNat)) g2) : WR (opM shrD a b e g) P :=
  wp_opI (h.mono fun x g1 k => k.mono fun y g2 ⟨i, j, e1, e2, hc, p⟩ => ⟨i, j, e1, e2, decide_eq_true hc, p⟩)
theorem wp_and_ (h : WR (a e g) fun x g1 => WR (b e g1) fun y g2 => ∃ i j, x = .int i ∧ y = .int j ∧ P (.int (Builtin.bitAnd i j)) g2) : WR (opM andD a b e g) P := wp_opI0 h
theorem mulD_int {i j : Int} {g : List Cell} (h : (-18446744073709551616 < i ∧ i < 18446744073709551616) ∨ (-18446744073709551616 < j ∧ j < 18446744073709551616)) : mulD (.int i) (.int j) g = some (.int (i * j)) := by
  unfold mulD orF mulI onI
  simp only
  rw [if_pos (decide_eq_true h)]
theorem wp_neg (h : WR (a e g) fun x g1 => ∃ i, x = .int i ∧ P (.int (-i)) g1) : WR (unM negD a e g) P := WR.bind (h.mono fun x g1 ⟨i, e, p⟩ => by subst e; exact p)
theorem wp_un {z : D → List Cell → Option D} (h : WR (a e g) fun x g1 => ∃ d, z x g1 = some d ∧ P d g1) : WR (unM z a e g) P := WR.bind (h.mono fun x g1 ⟨d, e, p⟩ => by rw [e]; exact p)
theorem wp_nil (h : PL [] g) : WR (nilM e g) PL := h
theorem wp_cons (h : WR (a e g) fun x g1 => WR (m e g1) fun xs g2 => PL (x :: xs) g2) : WR (consM a m e g) PL := WR.bind (h.mono fun x g1 k => WR.bind (k.mono fun _ _ p => p))
theorem wp_tup (h : WR (m e g) fun ds g1 => ds.length ≤ 16777216 ∧ P (.tup ds) g1) : WR (tupM m e g) P := WR.bind (h.mono fun ds g1 ⟨l, p⟩ => by rw [if_pos l]; exact p)
theorem wp_fit (h : WR (m e g) fun ds g1 => ds.length ≤ 16777216 ∧ PL ds g1) : WR (fitM m e g) PL := WR.bind (h.mono fun ds g1 ⟨l, p⟩ => by rw [if_pos l]; exact p)
theorem wp_val (h : WR (m e g) fun ds g1 => P (.lst ds) g1) : WR (valM m e g) P := WR.bind (h.mono fun _ _ p => p)
theorem wp_blt {z : List D → List Cell → Option D} (h : WR (m e g) fun ds g1 => ∃ d, z ds g1 = some d ∧ P d g1) : WR (bltM z m e g) P := WR.bind (h.mono fun x g1 ⟨d, e, p⟩ => by rw [e]; exact p)
theorem wp_call {n : Nat} {z : List D → List Cell → R D} (h : WR (m e g) fun ds g1 => ds.length = n ∧ WR (z ds g1) P) : WR (callM n z m e g) P := WR.bind (h.mono fun ds g1 ⟨l, p⟩ => by rw [if_pos l]; exact p)
theorem wp_sl {x : M D} {lo hi : M (Option Int)} (h : WR (x e g) fun d g1 => WR (lo e g1) fun l g2 => WR (hi e g2) fun k g3 => ∃ r, cutD d l k = some r ∧ P r g3) : WR (slM x lo hi e g) P :=
  WR.bind (h.mono fun d g1 k => WR.bind (k.mono fun l g2 k => WR.bind (k.mono fun r g3 ⟨d, e, p⟩ => by rw [e]; exact p)))
theorem wp_noP {PO : Option Int → List Cell → Prop} (h : PO none g) : WR (noP e g) PO := h
theorem wp_atP {PO : Option Int → List Cell → Prop} (h : WR (a e g) fun d g1 => ∃ i, d = .int i ∧ PO (some i) g1) : WR (atP a e g) PO := WR.bind (h.mono fun d g1 ⟨i, e, p⟩ => by subst e; exact p)
/-! ### tests -/
theorem wp_bool (h : WR (a e g) fun d g1 => ∃ b, d = .bl b ∧ PB b g1) : WR (boolM a e g) PB := WR.bind (h.mono fun d g1 ⟨i, e, p⟩ => by subst e; exact p)
/-- both ways of a test -/
def Br (p : Prop) (PB : Bool → List Cell → Prop) (g : List Cell) : Prop := (p → PB true g) ∧ (¬ p → PB false g)
theorem Br.dec {p : Prop} [Decidable p] (h : Br p PB g) : PB (decide p) g := by
  by_cases q : p
  · rw [decide_eq_true q]; exact h.1 q
  · rw [decide_eq_false q]; exact h.2 q
theorem wp_cmpI {z : Int → Int → Bool} {p : Int → Int → Prop} (hz : ∀ i j, z i j = true ↔ p i j) (h : WR (a e g) fun x g1 => WR (b e g1) fun y g2 => ∃ i j, x = .int i ∧ y = .int j ∧ Br (p i j) PB g2) : WR (boolM (opM (onI0 fun i j => .bl (z i j)) a b) e g) PB :=
  wp_bool (wp_opI0 (h.mono fun x g1 k => k.mono fun y g2 ⟨i, j, e1, e2, h1, h2⟩ => ⟨i, j, e1, e2, _, rfl, by
    cases q : z i j with
    | true => exact h1 ((hz i j).mp q)
    | false => exact h2 fun w => by rw [(hz i j).mpr w] at q; cases q⟩))
theorem wp_lt (h : WR (a e g) fun x g1 => WR (b e g1) fun y g2 => ∃ i j, x = .int i ∧ y = .int j ∧ Br (i < j) PB g2) : WR (boolM (opM ltD a b) e g) PB := wp_cmpI (fun i j => decide_eq_true_iff) h
theorem wp_le (h : WR (a e g) fun x g1 => WR (b e g1) fun y g2 => ∃ i j, x = .int i ∧ y = .int j ∧ Br (i ≤ j) PB g2) : WR (boolM (opM leD a b) e g) PB := wp_cmpI (fun i j => decide_eq_true_iff) h
theorem wp_gt (h : WR (a e g) fun x g1 => WR (b e g1) fun y g2 => ∃ i j, x = .int i ∧ y = .int j ∧ Br (j < i) PB g2) : WR (boolM (opM gtD a b) e g) PB := wp_cmpI (p := fun i j => j < i) (fun i j => decide_eq_true_iff) h
theorem wp_ge (h : WR (a e g) fun x g1 => WR (b e g1) fun y g2 => ∃ i j, x = .int i ∧ y = .int j ∧ Br (j ≤ i) PB g2) : WR (boolM (opM geD a b) e g) PB := wp_cmpI (p := fun i j => j ≤ i) (fun i j => decide_eq_true_iff) h
theorem wp_isN (h : WR (a e g) fun x g1 => WR (b e g1) fun y g2 => y = .non ∧ Br (x = .non) PB g2) : WR (boolM (opM isND a b) e g) PB := wp_bool (wp_op (h.mono fun x g1 k => k.mono fun y g2 ⟨e1, h1, h2⟩ => by
  subst e1
  cases x with
  | non => exact ⟨_, rfl, _, rfl, h1 rfl⟩
  | _ => exact ⟨_, rfl, _, rfl, h2 (fun z => nomatch z)⟩))
theorem wp_notN (h : WR (a e g) fun x g1 => WR (b e g1) fun y g2 => y = .non ∧ Br (x ≠ .non) PB g2) : WR (boolM (opM notND a b) e g) PB := wp_bool (wp_op (h.mono fun x g1 k => k.mono fun y g2 ⟨e1, h1, h2⟩ => by
  subst e1
  cases x with
  | non => exact ⟨_, rfl, _, rfl, h2 fun z => z rfl⟩
  | _ => exact ⟨_, rfl, _, rfl, h1 (fun z => nomatch z)⟩))
/-- == , by its value; of numbers both ways -/
def Eq2 (x y : D) (PB : Bool → List Cell → Prop) (g : List Cell) : Prop := (∃ i j, x = .int i ∧ y = .int j ∧ Br (i = j) PB g) ∨ (∃ b, eqA x y g = some (.bl b) ∧ PB b g)
theorem eq2_int {i j : Int} (h : Br (i = j) PB g) : Eq2 (.int i) (.int j) PB g := .inl ⟨i, j, rfl, rfl, h⟩
theorem wp_eq (h : WR (a e g) fun x g1 => WR (b e g1) fun y g2 => Eq2 x y PB g2) : WR (boolM (opM eqA a b) e g) PB := wp_bool (wp_op (h.mono fun x g1 k => k.mono fun y g2 q => by
  rcases q with ⟨i, j, rfl, rfl, h1, h2⟩ | ⟨b, e, p⟩
  · refine ⟨.bl (i == j), rfl, _, rfl, ?_⟩
    by_cases q : i = j
    · rw [beq_iff_eq.mpr q]; exact h1 q
    · rw [beq_eq_false_iff_ne.mpr q]; exact h2 q
  · exact ⟨_, e, _, rfl, p⟩))
theorem neA_of {x y : D} {g : List Cell} {b : Bool} (h : eqA x y g = some (.bl b)) : neA x y g = some (.bl (!b)) := by
  unfold eqA orF at h
  unfold neA orF
  have hs : ∀ x y : D, (∃ i j, x = .str i ∧ y = .str j) ∨ (eqS x y g = none ∧ neS x y g = none) := fun x y => by
    cases x <;> first | (right; exact ⟨rfl, rfl⟩) | (cases y <;> first | (right; exact ⟨rfl, rfl⟩) | exact .inl ⟨_, _, rfl, rfl⟩)
  rcases hs x y with ⟨i, j, rfl, rfl⟩ | ⟨h1, h2⟩
  · have h' : some (D.bl (i == j)) = some (.bl b) := h
    injection h' with h'
    injection h' with h'
    show some (D.bl (!(i == j))) = _
    rw [h']
  · rw [h1] at h
    rw [h2]
    simp only at h ⊢
    unfold eqP at h
    unfold neP
    split at h
    · rename_i hc
      injection h with h
      injection h with h
      rw [if_pos hc, h]
    · cases h
theorem wp_ne (h : WR (a e g) fun x g1 => WR (b e g1) fun y g2 => Eq2 x y (fun b g => PB (!b) g) g2) : WR (boolM (opM neA a b) e g) PB := wp_bool (wp_op (h.mono fun x g1 k => k.mono fun y g2 q => by
  rcases q with ⟨i, j, rfl, rfl, h1, h2⟩ | ⟨b, e, p⟩
  · refine ⟨.bl (!(i == j)), rfl, _, rfl, ?_⟩
    by_cases q : i = j
    · rw [beq_iff_eq.mpr q]; exact h1 q
    · rw [beq_eq_false_iff_ne.mpr q]; exact h2 q
  · exact ⟨_, neA_of e, _, rfl, p⟩))
theorem wp_andB (h : WR (t e g) fun x g1 => if x = true then WR (u e g1) PB else PB false g1) : WR (andB t u e g) PB := WR.bind (h.mono fun x g1 k => by
  cases x with
  | true => exact k
  | false => exact k)
theorem wp_orB (h : WR (t e g) fun x g1 => if x = true then PB true g1 else WR (u e g1) PB) : WR (orB t u e g) PB := WR.bind (h.mono fun x g1 k => by
  cases x with
  | true => exact k
  | false => exact k)
theorem wp_notB (h : WR (t e g) fun x g1 => PB (!x) g1) : WR (notB t e g) PB := WR.bind (h.mono fun _ _ p => p)
theorem wp_ifV (h : WR (t e g) fun x g1 => if x = true then WR (a e g1) P else WR (b e g1) P) : WR (ifV t a b e g) P := WR.bind (h.mono fun x g1 k => by
  cases x with
  | true => exact k
  | false => exact k)
theorem wp_andV (h : WR (boolM a e g) fun x g1 => if x = true then WR (b e g1) P else P (.bl false) g1) : WR (andV a b e g) P := WR.bind (h.mono fun x g1 k => by
  cases x with
  | true => exact k
  | false => exact k)
theorem wp_orV (h : WR (boolM a e g) fun x g1 => if x = true then P (.bl true) g1 else WR (b e g1) P) : WR (orV a b e g) P := WR.bind (h.mono fun x g1 k => by
  cases x with
  | true => exact k
  | false => exact k)
theorem wp_notV (h : WR (boolM a e g) fun x g1 => P (.bl (!x)) g1) : WR (notV a e g) P := WR.bind (h.mono fun _ _ p => p)
/-- a comparison as a value: as a test, then the bool -/
theorem wp_asB (hb : ∀ d g1, ((a e g) = .ok d g1) → ∃ b, d = .bl b) (h : WR (boolM a e g) fun b g1 => P (.bl b) g1) : WR (a e g) P := by
  cases q : a e g with
  | ok d g1 =>
    obtain ⟨b, rfl⟩ := hb d g1 q
    unfold boolM at h
    rw [q] at h
    exact h
  | ex c d g1 => unfold boolM at h; rw [q] at h; exact h.elim
  | bad => unfold boolM at h; rw [q] at h; exact h.elim
theorem op_bl {f : D → D → List Cell → Option D} (hf : ∀ x y g d, f x y g = some d → ∃ b, d = .bl b) : ∀ d g1, opM f a b e g = .ok d g1 → ∃ c, d = .bl c := fun d g1 h => by
  unfold opM at h
  cases q : a e g with
  | ex _ _ _ => rw [q] at h; cases h
  | bad => rw [q] at h; cases h
  | ok x g2 =>
    rw [q] at h
    simp only [R.bind_ok] at h
    cases q2 : b e g2 with
    | ex _ _ _ => rw [q2] at h; cases h
    | bad => rw [q2] at h; cases h
    | ok y g3 =>
      rw [q2] at h
      simp only [R.bind_ok] at h
      cases q3 : f x y g3 with
      | none => rw [q3] at h; cases h
      | some z =>
        rw [q3] at h
        cases h
        exact hf _ _ _ _ q3
theorem bl_eqA : ∀ x y g d, eqA x y g = some d → ∃ b, d = .bl b := bl_or (fun x y g d h => by cases x <;> cases y <;> first | (cases h; done) | (cases h; exact ⟨_, rfl⟩)) (fun x y g d h => by unfold eqP at h; split at h <;> cases h; exact ⟨_, rfl⟩)
theorem bl_neA : ∀ x y g d, neA x y g = some d → ∃ b, d = .bl b := bl_or (fun x y g d h => by cases x <;> cases y <;> first | (cases h; done) | (cases h; exact ⟨_, rfl⟩)) (fun x y g d h => by unfold neP at h; split at h <;> cases h; exact ⟨_, rfl⟩)
theorem wp_ltV (h : WR (boolM (opM ltD a b) e g) fun b g1 => P (.bl b) g1) : WR (opM ltD a b e g) P := wp_asB (op_bl bl_I) h
theorem wp_leV (h : WR (boolM (opM leD a b) e g) fun b g1 => P (.bl b) g1) : WR (opM leD a b e g) P := wp_asB (op_bl bl_I) h
theorem wp_gtV (h : WR (boolM (opM gtD a b) e g) fun b g1 => P (.bl b) g1) : WR (opM gtD a b e g) P := wp_asB (op_bl bl_I) h
theorem wp_geV (h : WR (boolM (opM geD a b) e g) fun b g1 => P (.bl b) g1) : WR (opM geD a b e g) P := wp_asB (op_bl bl_I) h
theorem wp_eqV (h : WR (boolM (opM eqA a b) e g) fun b g1 => P (.bl b) g1) : WR (opM eqA a b e g) P := wp_asB (op_bl bl_eqA) h
theorem wp_neV (h : WR (boolM (opM neA a b) e g) fun b g1 => P (.bl b) g1) : WR (opM neA a b e g) P := wp_asB (op_bl bl_neA) h
theorem wp_isNV (h : WR (boolM (opM isND a b) e g) fun b g1 => P (.bl b) g1) : WR (opM isND a b e g) P := wp_asB (op_bl fun x y g d h => by cases y <;> cases x <;> cases h <;> exact ⟨_, rfl⟩) h
theorem wp_notNV (h : WR (boolM (opM notND a b) e g) fun b g1 => P (.bl b) g1) : WR (opM notND a b e g) P := wp_asB (op_bl fun x y g d h => by cases y <;> cases x <;> cases h <;> exact ⟨_, rfl⟩) h
/-- a chain of two -/
theorem wp_ch (h : WR (a e g) fun x g1 => WR (b e g1) fun y g2 => ∃ z, f x y g2 = some (.bl z) ∧ if z = true then WR (c e g2) fun w g3 => ∃ d, f' y w g3 = some d ∧ P d g3 else P (.bl false) g2) : WR (chM f f' a b c e g) P :=
  WR.bind (h.mono fun x g1 k => WR.bind (k.mono fun y g2 ⟨z, e1, k⟩ => by
    rw [e1]
    cases z with
    | false => exact k
    | true =>
      have k' : WR (c e g2) _ := k
      refine WR.bind (r := R.of (some (D.bl true)) g2) ?_
      show WR ((c e g2).bind _) _
      exact WR.bind (WR.mono k' fun w g3 ⟨d, e, p⟩ => by rw [e]; exact p)))
/-! ### statements -/
variable {N : Env → List Cell → Prop} {T : D → List Cell → Prop} {B C : Env → List Cell → Prop} {s1 s2 : MS} {tg : D → Env → Option Env}
theorem wp_asgN {i : Nat} (_h : i = i) (h : WR (a e g) fun d g1 => N (e.set i (.v d)) g1) : WS (asgS a (tgN i) e g) N T B C := WS.toS (h.mono fun d g1 p => p)
theorem Br.mk {p : Prop} (h1 : p → PB true g) (h2 : ¬ p → PB false g) : Br p PB g := ⟨h1, h2⟩
theorem ite_t {A B : Prop} (h : A) : if true = true then A else B := h
theorem ite_f {A B : Prop} (h : B) : if false = true then A else B := h
theorem ite_nt {A B : Prop} (h : B) : if (!true) = true then A else B := h
theorem ite_nf {A B : Prop} (h : A) : if (!false) = true then A else B := h
theorem ite_dec {p A B : Prop} [Decidable p] (h1 : p → A) (h2 : ¬ p → B) : if decide p = true then A else B := by
  by_cases q : p
  · rw [decide_eq_true q]; exact h1 q
  · rw [decide_eq_false q]; exact h2 q
theorem Br.yes {p : Prop} {PB : Bool → List Cell → Prop} {g : List Cell} (h : p) (k : PB true g) : Br p PB g := ⟨fun _ => k, fun z => absurd h z⟩
theorem Br.no {p : Prop} {PB : Bool → List Cell → Prop} {g : List Cell} (h : ¬ p) (k : PB false g) : Br p PB g := ⟨fun z => absurd z h, fun _ => k⟩
theorem ite_yes {p A B : Prop} [Decidable p] (h : p) (k : A) : if decide p = true then A else B := by rw [decide_eq_true h]; exact k
theorem ite_no {p A B : Prop} [Decidable p] (h : ¬ p) (k : B) : if decide p = true then A else B := by rw [decide_eq_false h]; exact k
theorem ite_nyes {p A B : Prop} [Decidable p] (h : p) (k : B) : if (!decide p) = true then A else B := by rw [decide_eq_true h]; exact k
theorem ite_nno {p A B : Prop} [Decidable p] (h : ¬ p) (k : A) : if (!decide p) = true then A else B := by rw [decide_eq_false h]; exact k
theorem ite_ndec {p A B : Prop} [Decidable p] (h1 : ¬ p → A) (h2 : p → B) : if (!decide p) = true then A else B := by
  by_cases q : p
  · rw [decide_eq_true q]; exact h2 q
  · rw [decide_eq_false q]; exact h1 q
theorem wp_bits (h : WR (a e g) fun x g1 => ∃ i, x = .int i ∧ P (.int (Builtin.Int.intBits i : Nat)) g1) : WR (unM bitsD a e g) P := WR.bind (h.mono fun x g1 ⟨i, e, p⟩ => by subst e; exact p)
/-- +, by its values -/
def Mul2 (x y : D) (P : D → List Cell → Prop) (g : List Cell) : Prop := ∃ d, mulD x y g = some d ∧ P d g
theorem mul2_int {i j : Int} (h : ((-18446744073709551616 < i ∧ i < 18446744073709551616) ∨ (-18446744073709551616 < j ∧ j < 18446744073709551616)) ∧ P (.int (i * j)) g) : Mul2 (.int i) (.int j) P g := ⟨_, mulD_int h.1, h.2⟩
theorem wp_mul2 (h : WR (a e g) fun x g1 => WR (b e g1) fun y g2 => Mul2 x y P g2) : WR (opM mulD a b e g) P := wp_op h
def Add2 (x y : D) (P : D → List Cell → Prop) (g : List Cell) : Prop := ∃ d, addD x y g = some d ∧ P d g
theorem add2_int {i j : Int} (h : P (.int (i + j)) g) : Add2 (.int i) (.int j) P g := ⟨_, rfl, h⟩
theorem add2_tup {xs ys : List D} (hl : xs.length + ys.length ≤ 16777216) (h : P (.tup (xs ++ ys)) g) : Add2 (.tup xs) (.tup ys) P g := ⟨.tup (xs ++ ys), by unfold addD orF onI0 addT; simp only; rw [if_pos hl], h⟩
theorem add2_lst {xs ys : List D} (hl : xs.length + ys.length ≤ 16777216) (h : P (.lst (xs ++ ys)) g) : Add2 (.lst xs) (.lst ys) P g := ⟨.lst (xs ++ ys), by unfold addD orF onI0 addT addL; simp only; rw [if_pos hl], h⟩
theorem wp_add (h : WR (a e g) fun x g1 => WR (b e g1) fun y g2 => Add2 x y P g2) : WR (opM addD a b e g) P :=
  wp_op (h.mono fun x g1 k => k.mono fun y g2 q => q)
theorem wp_skip (h : N e g) : WS (skipS e g) N T B C := h
theorem wp_break (h : B e g) : WS (breakS e g) N T B C := h
theorem wp_cont (h : C e g) : WS (contS e g) N T B C := h
theorem wp_seq (h : WS (s1 e g) (fun e1 g1 => WS (s2 e1 g1) N T B C) T B C) : WS (seqS s1 s2 e g) N T B C := by
  unfold seqS
  cases q : s1 e g <;> rw [q] at h <;> exact h
theorem wp_asg (h : WR (a e g) fun d g1 => ∃ e1, tg d e = some e1 ∧ N e1 g1) : WS (asgS a tg e g) N T B C := WS.toS (h.mono fun d g1 ⟨e1, q, p⟩ => by rw [q]; exact p)
theorem wp_ret (h : WR (a e g) T) : WS (retS a e g) N T B C := WS.toS h
theorem wp_retN (h : T .non g) : WS (retN e g) N T B C := h
theorem wp_retOwn {i : Nat} {ds : List D} (hi : e[i]? = some (.own ds)) (h : T (.lst ds) g) : WS (retOwn i e g) N T B C := by unfold retOwn; rw [hi]; exact h
theorem wp_retOwnV {i : Nat} {d : D} (hi : e[i]? = some (.v d)) (h : T d g) : WS (retOwn i e g) N T B C := by unfold retOwn; rw [hi]; exact h
theorem wp_retCell (h : WR (m e g) fun ds g1 => T (.g g1.length) (g1 ++ [.lst ds])) : WS (retCell m e g) N T B C := WS.toS h
theorem wp_ifS (h : WR (t e g) fun x g1 => if x = true then WS (s1 e g1) N T B C else WS (s2 e g1) N T B C) : WS (ifS t s1 s2 e g) N T B C := WS.toS (h.mono fun x g1 k => by
  cases x with
  | true => exact k
  | false => exact k)
theorem wp_expr (h : WR (a e g) fun _ g1 => N e g1) : WS (exprS a e g) N T B C := WS.toS h
theorem wp_own {i : Nat} (h : WR (m e g) fun ds g1 => N (e.set i (.own ds)) g1) : WS (ownS m i e g) N T B C := WS.toS h
theorem wp_frz {i : Nat} {ds : List D} (hi : e[i]? = some (.own ds)) (h : WS (s1 (e.set i (.v (.lst ds))) g) N T B C) : WS (frzS i s1 e g) N T B C := by unfold frzS frzE; rw [hi]; exact h
theorem wp_frzV {i : Nat} {d : D} (hi : e[i]? = some (.v d)) (h : WS (s1 e g) N T B C) : WS (frzS i s1 e g) N T B C := by unfold frzS frzE; rw [hi]; exact h
theorem wp_par {i j : Nat} (h : WR (a e g) fun x g1 => WR (b e g1) fun y g2 => N ((e.set i (.v x)).set j (.v y)) g2) : WS (parS i j a b e g) N T B C := WS.toS (h.mono fun x g1 k => WS.toS k)
theorem wp_parF {i j : Nat} (h : WR (m e g) fun x g1 => WR (b e g1) fun y g2 => N ((e.set i (.own x)).set j (.v y)) g2) : WS (parFS i j m b e g) N T B C := WS.toS (h.mono fun x g1 k => WS.toS k)
theorem wp_parG {i j : Nat} (h : WR (a e g) fun x g1 => WR (m e g1) fun y g2 => N ((e.set i (.v x)).set j (.own y)) g2) : WS (parSF i j a m e g) N T B C := WS.toS (h.mono fun x g1 k => WS.toS k)
theorem wp_append {i : Nat} {ds : List D} (hi : e[i]? = some (.own ds)) (h : WR (a e g) fun d g1 => ds.length < 16777216 ∧ N (e.set i (.own (ds ++ [d]))) g1) : WS (appendS i a e g) N T B C := by
  unfold appendS
  rw [hi]
  exact WS.toS (h.mono fun d g1 ⟨l, p⟩ => by rw [if_pos l]; exact p)
theorem wp_setC {i n : Nat} (hi : e[i]? = some (.v (.g n))) (h : WR (a e g) fun d g1 => WR (b e g1) fun k g2 => ∃ kk ds j, k = .int kk ∧ g2[n]? = some (.lst ds) ∧ ixN ds.length kk = some j ∧ N e (g2.set n (.lst (ds.set j d)))) : WS (setS i b a e g) N T B C := by
  unfold setS
  rw [hi]
  refine WS.toS (h.mono fun d g1 k => WS.toS (k.mono fun kd g2 ⟨kk, ds, j, e1, e2, e3, p⟩ => ?_))
  subst e1
  simp only [e2, e3]
  exact p
theorem wp_setO {i : Nat} {ds : List D} (hi : e[i]? = some (.own ds)) (h : WR (a e g) fun d g1 => WR (b e g1) fun k g2 => ∃ kk j, k = .int kk ∧ ixN ds.length kk = some j ∧ N (e.set i (.own (ds.set j d))) g2) : WS (setS i b a e g) N T B C := by
  unfold setS
  rw [hi]
  refine WS.toS (h.mono fun d g1 k => WS.toS (k.mono fun kd g2 ⟨kk, j, e1, e3, p⟩ => ?_))
  subst e1
  simp only [e3]
  exact p
theorem wp_aug {i : Nat} {d0 : D} (hi : e[i]? = some (.v d0)) (h : WR (a e g) fun d g1 => ∃ z, f d0 d g1 = some z ∧ N (e.set i (.v z)) g1) : WS (augS f i a e g) N T B C := by
  unfold augS
  rw [hi]
  exact WS.toS (h.mono fun d g1 ⟨z, q, p⟩ => by simp only [q]; exact p)
theorem wp_fn {n k : Nat} {body : MS} {ds : List D} (hl : ds.length = n) (h : WS (body (ds.map .v ++ List.replicate (k - n) .no) g) (fun _ g1 => P .non g1) P (fun _ _ => False) fun _ _ => False) : WR (fnM n k body ds g) P := by
  unfold fnM
  rw [if_pos hl]
  cases q : body (ds.map .v ++ List.replicate (k - n) .no) g <;> rw [q] at h <;> first | exact h | exact h.elim
theorem cset_get {n : Nat} {c d : Cell} (h : g[n]? = some c) : (g.set n d)[n]? = some d := by
  rw [List.getElem?_set_self]
  exact (List.getElem?_eq_some_iff.mp h).1
theorem ixG {n : Nat} {ds : List D} {i : Int} {d : D} (h : g[n]? = some (.lst ds)) (k : atI ds i = some d) : ixD (.g n) (.int i) g = some d := by
  unfold ixD
  simp only [h]
  exact k
theorem atI_nat {α : Type} {ds : List α} {i : Int} {d : α} (h0 : 0 ≤ i) (h : ds[i.toNat]? = some d) : atI ds i = some d := by
  have hl : i.toNat < ds.length := (List.getElem?_eq_some_iff.mp h).1
  unfold atI ixN
  rw [if_pos h0, if_pos (by omega)]
  exact h
theorem atI_mem {α : Type} {ds : List α} {i : Int} (h0 : 0 ≤ i) (h : i < ds.length) : ∃ d, d ∈ ds ∧ atI ds i = some d := by
  have hl : i.toNat < ds.length := by omega
  exact ⟨ds[i.toNat], List.getElem_mem hl, atI_nat h0 (List.getElem?_eq_getElem hl)⟩
/-! ### loops -/
theorem wp_forS (h : WR (m e g) fun ds g1 => WS (forL tg s1 ds e g1) N T B C) : WS (forS m tg s1 e g) N T B C := WS.toS h
theorem wp_forL (Q : Nat → Env → List Cell → Prop) {ds : List D} (q : Q 0 e g) (h : ∀ i d e g, ds[i]? = some d → Q i e g → ∃ e1, tg d e = some e1 ∧ WS (s1 e1 g) (Q (i + 1)) T N (Q (i + 1))) (k : ∀ e g, Q ds.length e g → N e g) : WS (forL tg s1 ds e g) N T B C := by
  have main : ∀ (xs : List D) (n : Nat) (e : Env) (g : List Cell), n + xs.length = ds.length → (∀ i d, xs[i]? = some d → ds[n + i]? = some d) → Q n e g → WS (forL tg s1 xs e g) N T B C := by
    intro xs
    induction xs with
    | nil =>
      intro n e g hl _ q
      have : n = ds.length := by simpa using hl
      subst this
      exact k e g q
    | cons d xs ih =>
      intro n e g hl hd q
      obtain ⟨e1, h1, h2⟩ := h n d e g (by simpa using hd 0 d rfl) q
      have next : ∀ e2 g2, Q (n + 1) e2 g2 → WS (forL tg s1 xs e2 g2) N T B C := fun e2 g2 q2 =>
        ih (n + 1) e2 g2 (by simp only [List.length_cons] at hl; omega) (fun i x hx => by rw [show n + 1 + i = n + (i + 1) by omega]; exact hd (i + 1) x (by simpa using hx)) q2
      unfold forL
      rw [h1]
      cases z : s1 e1 g <;> simp only [z] at h2 ⊢ <;> first | exact next _ _ h2 | exact h2
  exact main ds 0 e g (by simp) (fun i d h => by rw [Nat.zero_add]; exact h) q
theorem wp_whN (Q : Nat → Env → List Cell → Prop) {n k : Nat} (hn : k < n) (q : Q k e g)
    (h : ∀ k e g, Q k e g → WR (t e g) fun b g1 => if b = true then WS (s1 e g1) (fun e2 g2 => ∃ j, j < k ∧ Q j e2 g2) T N (fun e2 g2 => ∃ j, j < k ∧ Q j e2 g2) else N e g1) : WS (whL t s1 n e g) N T B C := by
  induction n generalizing e g k with
  | zero => exact absurd hn (Nat.not_lt_zero _)
  | succ n ih =>
    refine WS.toS ((h k e g q).mono fun b g1 z => ?_)
    cases b with
    | false => exact z
    | true =>
      have next : ∀ e2 g2, (∃ j, j < k ∧ Q j e2 g2) → WS (whL t s1 n e2 g2) N T B C := fun e2 g2 ⟨j, hj, z⟩ => ih (by omega) z
      have k' : WS (s1 e g1) (fun e2 g2 => ∃ j, j < k ∧ Q j e2 g2) T N (fun e2 g2 => ∃ j, j < k ∧ Q j e2 g2) := z
      cases z : s1 e g1 <;> simp only [z, if_true] at k' ⊢ <;> first | exact next _ _ k' | exact k'
theorem wp_lc {it : M (List D)} {own : List Nat} (h : WR (it e g) fun ds g1 => ds.length ≤ 16777216 ∧ WR (lcL tg t a (wipeE e own) ds g1) PL) : WR (lcM it tg t a own e g) PL := WR.bind (h.mono fun ds g1 ⟨l, p⟩ => by rw [if_pos l]; exact p)
theorem noex_wp {α : Type} {r : R α} {P : α → List Cell → Prop} (h : WR r P) : WR r.noex P := by
  cases r with
  | ok a g => exact h
  | ex c d g => exact h.elim
  | bad => exact h.elim
/-- Q by the number of items gone and what the list holds so far -/
theorem wp_lcL (Q : Nat → List D → List Cell → Prop) {ds : List D} (q : Q 0 [] g)
    (h : ∀ i d acc g, ds[i]? = some d → Q i acc g → ∃ e1, tg d e = some e1 ∧ WR (t e1 g) fun b g1 => if b = true then WR (a e1 g1) fun y g2 => Q (i + 1) (acc ++ [y]) g2 else Q (i + 1) acc g1) (k : ∀ r g, Q ds.length r g → PL r g) : WR (lcL tg t a e ds g) PL := by
  have main : ∀ (xs : List D) (n : Nat) (acc : List D) (g : List Cell), n + xs.length = ds.length → (∀ i d, xs[i]? = some d → ds[n + i]? = some d) → Q n acc g → WR (lcL tg t a e xs g) fun r g => PL (acc ++ r) g := by
    intro xs
    induction xs with
    | nil =>
      intro n acc g hl _ q
      have : n = ds.length := by simpa using hl
      subst this
      show PL (acc ++ []) g
      rw [List.append_nil]
      exact k acc g q
    | cons d xs ih =>
      intro n acc g hl hd q
      obtain ⟨e1, h1, h2⟩ := h n d acc g (by simpa using hd 0 d rfl) q
      have next : ∀ acc g2, Q (n + 1) acc g2 → WR (lcL tg t a e xs g2) fun r g => PL (acc ++ r) g := fun acc g2 q2 =>
        ih (n + 1) acc g2 (by simp only [List.length_cons] at hl; omega) (fun i x hx => by rw [show n + 1 + i = n + (i + 1) by omega]; exact hd (i + 1) x (by simpa using hx)) q2
      unfold lcL
      rw [h1]
      refine WR.bind ((noex_wp h2).mono fun b g1 z => ?_)
      cases b with
      | false => exact next _ _ z
      | true =>
        rw [if_pos rfl]
        refine WR.bind ((noex_wp z).mono fun y g2 z => WR.bind ((next _ _ z).mono fun r g3 p => ?_))
        rw [List.append_assoc] at p
        exact p
  have := main ds 0 [] g (by simp) (fun i d h => by rw [Nat.zero_add]; exact h) q
  exact this.mono fun r g p => by rw [List.nil_append] at p; exact p
theorem wp_yesT (h : PB true g) : WR (yesB e g) PB := h
theorem wp_yes (h : PB true g) : WR (yesB e g) PB := h
theorem wp_rng1 (h : WR (m e g) fun ds g1 => ∃ n, ds = [.int n] ∧ (-4611686018427387904 ≤ n ∧ n < 4611686018427387904) ∧ PL (rngL 0 n.toNat) g1) : WR (rngIt m e g) PL := WR.bind (h.mono fun ds g1 ⟨n, e1, c, p⟩ => by
  subst e1
  simp only
  rw [if_pos c]
  exact p)
theorem wp_rng2 (h : WR (m e g) fun ds g1 => ∃ i j, ds = [.int i, .int j] ∧ ((-4611686018427387904 ≤ i ∧ i < 4611686018427387904) ∧ -4611686018427387904 ≤ j ∧ j < 4611686018427387904) ∧ PL (rngL i (j - i).toNat) g1) : WR (rng2It m e g) PL := WR.bind (h.mono fun ds g1 ⟨i, j, e1, c, p⟩ => by
  subst e1
  simp only
  rw [if_pos c]
  exact p)
theorem wp_seqIt (h : WR (a e g) fun d g1 => (∃ xs, d = .lst xs ∧ PL xs g1) ∨ ∃ xs, d = .tup xs ∧ PL xs g1) : WR (seqIt a e g) PL := WR.bind (h.mono fun d g1 k => by
  rcases k with ⟨xs, rfl, p⟩ | ⟨xs, rfl, p⟩ <;> exact p)
theorem wp_zipIt (h : WR (m e g) fun ds g1 => (∃ xs ys, ds = [.lst xs, .lst ys] ∧ PL (zipL xs ys) g1) ∨ ∃ xs ys, ds = [.tup xs, .tup ys] ∧ PL (zipL xs ys) g1) : WR (zipIt m e g) PL := WR.bind (h.mono fun d g1 k => by
  rcases k with ⟨xs, ys, rfl, p⟩ | ⟨xs, ys, rfl, p⟩ <;> exact p)
end
@[simp] theorem rngL_length (lo : Int) (n : Nat) : (rngL lo n).length = n := by simp [rngL]
theorem rngL_get {lo : Int} {n i : Nat} {d : D} (h : (rngL lo n)[i]? = some d) : i < n ∧ d = .int (lo + i) := by
  unfold rngL at h
  rw [List.getElem?_map] at h
  by_cases hi : i < n
  · rw [List.getElem?_range hi] at h
    cases h
    exact ⟨hi, rfl⟩
  · rw [List.getElem?_eq_none (by simpa using hi)] at h
    cases h
theorem all_rep (n : Nat) (g : List Cell) : allF [.lst (List.replicate n (.bl true))] g = some (.bl true) := by
  have e : List.replicate n (D.bl true) = (List.replicate n true).map .bl := by rw [List.map_replicate]
  rw [e]
  show Option.map _ (blsOf _) = _
  rw [blsOf_map]
  simp
theorem eqA_strs (i : Str) (g : List Cell) : eqA (.str i) (.str i) g = some (.bl true) := by
  show some (D.bl (i == i)) = _
  rw [beq_self_eq_true]
theorem eq2_str {i : Str} {PB : Bool → List Cell → Prop} {g : List Cell} (h : PB true g) : Eq2 (.str i) (.str i) PB g := .inr ⟨true, eqA_strs i g, h⟩
section
variable {e : Env} {g : List Cell} {P : D → List Cell → Prop} {PB : Bool → List Cell → Prop} {PL : List D → List Cell → Prop} {a b c : M D} {m : M (List D)} {t : M Bool}
/-! ### classes, objects -/
theorem wp_fld {n : Nat} (h : WR (a e g) fun x g1 => ∃ k d, x = .ob k d ∧ k < n ∧ P d g1) : WR (unM (fldD n) a e g) P := wp_un (h.mono fun x g1 ⟨k, d, e1, hk, p⟩ => ⟨d, by subst e1; unfold fldD; simp only; rw [if_pos hk], p⟩)
theorem wp_isiB {T : String} (h : WR (a e g) fun x g1 => ∃ t b, tyD x = some t ∧ kitB t T = some b ∧ PB b g1) : WR (boolM (unM (isiD T) a) e g) PB := wp_bool (wp_un (h.mono fun x g1 ⟨t, b, e1, e2, p⟩ => ⟨.bl b, by unfold isiD; rw [e1]; simp only [e2]; rfl, b, rfl, p⟩))
theorem wp_isi {T : String} (h : WR (a e g) fun x g1 => ∃ t b, tyD x = some t ∧ kitB t T = some b ∧ P (.bl b) g1) : WR (unM (isiD T) a e g) P := wp_un (h.mono fun x g1 ⟨t, b, e1, e2, p⟩ => ⟨.bl b, by unfold isiD; rw [e1]; simp only [e2]; rfl, p⟩)
theorem wp_onCl {α : Type} {k : Nat} {m2 : M α} {PA : α → List Cell → Prop} (h : WR (a e g) fun x g1 => x = .cl k ∧ WR (m2 e g1) PA) : WR (onCl k a m2 e g) PA := WR.bind (h.mono fun x g1 ⟨e1, p⟩ => by subst e1; simp only [↓reduceIte]; exact p)
theorem wp_sm {k n : Nat} {f : List D → List Cell → R D} (h : WR (a e g) fun x g1 => x = .cl k ∧ WR (m e g1) fun ds g2 => ds.length = n ∧ WR (f ds g2) P) : WR (smM k n f a m e g) P := wp_onCl (h.mono fun x g1 ⟨e1, p⟩ => ⟨e1, wp_call p⟩)
theorem wp_cm {k n : Nat} {f : List D → List Cell → R D} (h : WR (a e g) fun x g1 => x = .cl k ∧ WR (m e g1) fun ds g2 => ds.length + 1 = n ∧ WR (f (.cl k :: ds) g2) P) : WR (cmM k n f a m e g) P := wp_onCl (h.mono fun x g1 ⟨e1, p⟩ => ⟨e1, WR.bind (p.mono fun ds g2 ⟨l, q⟩ => by rw [if_pos l]; exact q)⟩)
theorem wp_mk {k : Nat} {f : List D → List Cell → R D} (h : WR (m e g) fun ds g1 => WR (f ds g1) fun d g2 => P (.ob k d) g2) : WR (mkM k f m e g) P := WR.bind (h.mono fun ds g1 p => WR.bind (p.mono fun d g2 q => q))
theorem wp_mkStar {k : Nat} {f : List D → List Cell → R D} (h : WR (a e g) fun x g1 => x = .cl k ∧ WR (b e g1) fun y g2 => ∃ ds, y = .tup ds ∧ WR (f ds g2) fun d g3 => P (.ob k d) g3) : WR (mkStarM k f a b e g) P := wp_onCl (h.mono fun x g1 ⟨e1, p⟩ => ⟨e1, WR.bind (p.mono fun y g2 ⟨ds, e2, q⟩ => by subst e2; exact WR.bind (q.mono fun d g3 z => z))⟩)
theorem wp_inStar {f : List D → List Cell → R D} {ds : List D} (hl : ds.length ≤ 16777216) (h : WR (f [.tup ds] g) P) : WR (inStar f ds g) P := by unfold inStar; rw [if_pos hl]; exact h
theorem wp_in {N : Nat} {r : MS} {ds : List D} (h : WR (t (inE N ds) g) fun b g1 => b = false ∧ WR (a (inE N ds) g1) P) : WR (inM N t r a ds g) P := by
  unfold inM
  exact WR.bind (h.mono fun b g1 ⟨e1, p⟩ => by subst e1; exact p)
theorem wp_enum (h : WR (m e g) fun ds g1 => (∃ xs, ds = [.tup xs] ∧ PL (enumL xs) g1) ∨ ∃ xs, ds = [.lst xs] ∧ PL (enumL xs) g1) : WR (enumIt m e g) PL := WR.bind (h.mono fun d g1 k => by
  rcases k with ⟨xs, rfl, p⟩ | ⟨xs, rfl, p⟩ <;> exact p)
end
theorem kit_NoneType_int : kitB "NoneType" "int" = some false := by decide +kernel
theorem kit_NoneType_bool : kitB "NoneType" "bool" = some false := by decide +kernel
theorem kit_NoneType_tuple : kitB "NoneType" "tuple" = some false := by decide +kernel
theorem kit_NoneType_str : kitB "NoneType" "str" = some false := by decide +kernel
theorem kit_NoneType_list : kitB "NoneType" "list" = some false := by decide +kernel
theorem kit_bool_int : kitB "bool" "int" = some true := by decide +kernel
theorem kit_bool_bool : kitB "bool" "bool" = some true := by decide +kernel
theorem kit_bool_tuple : kitB "bool" "tuple" = some false := by decide +kernel
theorem kit_bool_str : kitB "bool" "str" = some false := by decide +kernel
theorem kit_bool_list : kitB "bool" "list" = some false := by decide +kernel
theorem kit_int_int : kitB "int" "int" = some true := by decide +kernel
theorem kit_int_bool : kitB "int" "bool" = some false := by decide +kernel
theorem kit_int_tuple : kitB "int" "tuple" = some false := by decide +kernel
theorem kit_int_str : kitB "int" "str" = some false := by decide +kernel
theorem kit_int_list : kitB "int" "list" = some false := by decide +kernel
theorem kit_str_int : kitB "str" "int" = some false := by decide +kernel
theorem kit_str_bool : kitB "str" "bool" = some false := by decide +kernel
theorem kit_str_tuple : kitB "str" "tuple" = some false := by decide +kernel
theorem kit_str_str : kitB "str" "str" = some true := by decide +kernel
theorem kit_str_list : kitB "str" "list" = some false := by decide +kernel
theorem kit_tuple_int : kitB "tuple" "int" = some false := by decide +kernel
theorem kit_tuple_bool : kitB "tuple" "bool" = some false := by decide +kernel
theorem kit_tuple_tuple : kitB "tuple" "tuple" = some true := by decide +kernel
theorem kit_tuple_str : kitB "tuple" "str" = some false := by decide +kernel
theorem kit_tuple_list : kitB "tuple" "list" = some false := by decide +kernel
theorem kit_list_int : kitB "list" "int" = some false := by decide +kernel
theorem kit_list_bool : kitB "list" "bool" = some false := by decide +kernel
theorem kit_list_tuple : kitB "list" "tuple" = some false := by decide +kernel
theorem kit_list_str : kitB "list" "str" = some false := by decide +kernel
theorem kit_list_list : kitB "list" "list" = some true := by decide +kernel
section
variable {e : Env} {g : List Cell} {P : D → List Cell → Prop} {PB : Bool → List Cell → Prop} {a b c : M D}
theorem wp_chLL (h : WR (a e g) fun x g1 => WR (b e g1) fun y g2 => ∃ i j, x = .int i ∧ y = .int j ∧ Br (i ≤ j) (fun z g3 => if z = true then WR (c e g3) fun w g4 => ∃ k, w = .int k ∧ Br (j ≤ k) PB g4 else PB false g3) g2) : WR (boolM (chM leD leD a b c) e g) PB :=
  wp_bool (wp_ch (h.mono fun x g1 q => q.mono fun y g2 ⟨i, j, e1, e2, h1, h2⟩ => ⟨decide (i ≤ j), by subst e1; subst e2; rfl, by
    by_cases hij : i ≤ j
    · rw [decide_eq_true hij, if_pos rfl]
      have h1 : WR (c e g2) _ := h1 hij
      exact h1.mono fun w g3 ⟨k, e3, q⟩ => ⟨.bl (decide (j ≤ k)), by subst e3; subst e2; rfl, _, rfl, q.dec⟩
    · rw [decide_eq_false hij, if_neg (by decide)]
      have h2 : PB false g2 := h2 hij
      exact ⟨_, rfl, h2⟩⟩))
end

theorem wp_par3 {e : Env} {g : List Cell} {N : Env → List Cell → Prop} {T : D → List Cell → Prop} {B C : Env → List Cell → Prop} {a b c : M D} {i j l : Nat} (h : WR (a e g) fun x g1 => WR (b e g1) fun y g2 => WR (c e g2) fun z g3 => N (((e.set i (.v x)).set j (.v y)).set l (.v z)) g3) : WS (par3S i j l a b c e g) N T B C := WS.toS (h.mono fun x g1 k => WS.toS (k.mono fun y g2 k => WS.toS (k.mono fun _ _ p => p)))
/-! ### the rules' own operators -/
section
variable {e : Env} {g : List Cell} {P : D → List Cell → Prop} {PB : Bool → List Cell → Prop} {a b : M D} {m : M (List D)} {f : List D → List Cell → R D} {c c' : Nat} {d d' : D} {neg : Bool}
theorem wp_two {q : D → D → List Cell → R D} (h : WR (a e g) fun x g1 => WR (b e g1) fun y g2 => WR (q x y g2) P) : WR (two q a b e g) P := WR.bind (h.mono fun _ _ k => WR.bind k)
theorem isRu_ob (h : c < 2) : isRu (.ob c d) = true := decide_eq_true h
theorem wp_kRu (h1 : c < 2) (h2 : c' < 2) (h : WR (f [.ob c d, .ob c' d'] g) P) : WR (kRu f (.ob c d) (.ob c' d') g) P := by
  unfold kRu
  rw [if_pos ⟨isRu_ob h1, isRu_ob h2⟩]
  exact h
theorem wp_kRuI {i : Int} (h1 : c < 2) (h : WR (f [.ob c d, .int i] g) P) : WR (kRuI f (.ob c d) (.int i) g) P := by
  unfold kRuI
  rw [if_pos ⟨isRu_ob h1, rfl⟩]
  exact h
theorem wp_kRuX {x : D} (h1 : c < 2) (h : WR (f [.ob c d, x] g) P) : WR (kRuX f (.ob c d) x g) P := by
  unfold kRuX
  rw [if_pos (isRu_ob h1)]
  exact h
theorem wp_asBl {r : R D} (h : WR r fun x g1 => ∃ b, x = .bl b ∧ P (.bl (if neg then !b else b)) g1) : WR (asBl neg r) P := WR.bind (h.mono fun x g1 ⟨b, e, p⟩ => by subst e; exact p)
theorem wp_kRuIn {x : D} (h1 : c < 2) (h : WR (f [.ob c d, x] g) fun x g1 => ∃ b, x = .bl b ∧ P (.bl (if neg then !b else b)) g1) : WR (kRuIn neg f x (.ob c d) g) P := by
  unfold kRuIn
  rw [if_pos (isRu_ob h1)]
  exact wp_asBl h
theorem wp_kRuE (h1 : c < 2) (h2 : c' < 2) (h : (c = 0 ∧ c' = 1 → WR (f [.ob c' d', .ob c d] g) fun x g1 => ∃ b, x = .bl b ∧ P (.bl (if neg then !b else b)) g1) ∧ (¬ (c = 0 ∧ c' = 1) → WR (f [.ob c d, .ob c' d'] g) fun x g1 => ∃ b, x = .bl b ∧ P (.bl (if neg then !b else b)) g1)) : WR (kRuE neg f (.ob c d) (.ob c' d') g) P := by
  unfold kRuE
  rw [if_pos ⟨isRu_ob h1, isRu_ob h2⟩]
  refine wp_asBl ?_
  by_cases q : c = 0 ∧ c' = 1
  · rw [if_pos (show cOf (.ob c d) = 0 ∧ cOf (.ob c' d') = 1 from q)]
    exact h.1 q
  · rw [if_neg (show ¬ (cOf (.ob c d) = 0 ∧ cOf (.ob c' d') = 1) from q)]
    exact h.2 q
theorem wp_ruLen (h : WR (m e g) fun ds g1 => ∃ c d, ds = [.ob c d] ∧ c < 2 ∧ WR (f [.ob c d] g1) fun x g2 => ∃ n, x = .int n ∧ (0 ≤ n ∧ n < 9223372036854775808) ∧ P (.int n) g2) : WR (ruLen f m e g) P := WR.bind (h.mono fun ds g1 ⟨c, d, e1, hc, k⟩ => by
  subst e1
  simp only
  rw [if_pos (isRu_ob hc)]
  exact WR.bind (k.mono fun x g2 ⟨n, e2, hn, p⟩ => by subst e2; simp only; rw [if_pos hn]; exact p))
theorem wp_ruCall {n : Nat} (h : WR (a e g) fun x g1 => isRu x = true ∧ WR (m e g1) fun ds g2 => (x :: ds).length = n ∧ WR (f (x :: ds) g2) P) : WR (ruCall n f a m e g) P := WR.bind (h.mono fun x g1 ⟨hx, k⟩ => by
  rw [if_pos hx]
  exact WR.bind (k.mono fun ds g2 ⟨hl, p⟩ => by rw [if_pos hl]; exact p))
theorem wp_isiRu {n : Nat} (h : WR (a e g) fun x g1 => ∃ r, isiRu n x g1 = some r ∧ P r g1) : WR (unM (isiRu n) a e g) P := wp_un h
theorem isiRu_ob {n : Nat} (hc : c < 2) : isiRu n (.ob c d) g = some (.bl (decide (n ≤ c))) := by
  show (if c < 2 then some (D.bl (decide (n ≤ c))) else none) = _
  rw [if_pos hc]
end
theorem wp_par3F {e : Env} {g : List Cell} {N : Env → List Cell → Prop} {T : D → List Cell → Prop} {B C : Env → List Cell → Prop} {m : M (List D)} {b c : M D} {i j l : Nat} (h : WR (m e g) fun x g1 => WR (b e g1) fun y g2 => WR (c e g2) fun z g3 => N (((e.set i (.own x)).set j (.v y)).set l (.v z)) g3) : WS (par3F i j l m b c e g) N T B C :=
  WS.toS (h.mono fun x g1 k => WS.toS (k.mono fun y g2 k2 => WS.toS k2))
theorem wp_star1 {fs : List D → List Cell → R D} {d : D} {ds : List D} {g : List Cell} {P : D → List Cell → Prop} (hl : ds.length ≤ 16777216) (h : WR (fs [d, .tup ds] g) P) : WR (starN 1 fs (d :: ds) g) P := by
  show WR (if ds.length ≤ 16777216 then fs [d, .tup ds] g else .bad) P
  rw [if_pos hl]
  exact h
theorem wp_parFF {e : Env} {g : List Cell} {N : Env → List Cell → Prop} {T : D → List Cell → Prop} {B C : Env → List Cell → Prop} {a b : M (List D)} {i j : Nat} (h : WR (a e g) fun x g1 => WR (b e g1) fun y g2 => N ((e.set i (.own x)).set j (.own y)) g2) : WS (parFF i j a b e g) N T B C := WS.toS (h.mono fun x g1 k => WS.toS k)
theorem wp_asgTF {e : Env} {g : List Cell} {N : Env → List Cell → Prop} {T : D → List Cell → Prop} {B C : Env → List Cell → Prop} {a : M D} {b : M (List D)} {i j : Nat} (h : WR (a e g) fun x g1 => WR (b e g1) fun y g2 => N ((e.set i (.v x)).set j (.own y)) g2) : WS (asgTF i j a b e g) N T B C := WS.toS (h.mono fun x g1 k => WS.toS k)
theorem wp_popT {e e1 : Env} {g : List Cell} {N : Env → List Cell → Prop} {T : D → List Cell → Prop} {B C : Env → List Cell → Prop} {i : Nat} {f : D → Env → Option Env} {ds : List D} {d : D} (hi : e[i]? = some (.own ds)) (hd : ds[ds.length - 1]? = some d) (ht : f d (e.set i (.own ds.dropLast)) = some e1) (h : N e1 g) : WS (popT i f e g) N T B C := by
  unfold popT
  rw [hi]
  simp only [hd, ht]
  exact h
section
variable {e : Env} {g : List Cell} {P : D → List Cell → Prop} {PL : List D → List Cell → Prop} {a b : M D} {m : M (List D)}
theorem wp_rng3 (h : WR (m e g) fun ds g1 => ∃ i j k, ds = [.int i, .int j, .int k] ∧ (rgcB i j k = true ∧ 0 ≤ Builtin.Range.rangeSize i j k) ∧ PL (rngC i k (Builtin.Range.rangeSize i j k).toNat) g1) : WR (rng3It m e g) PL := WR.bind (h.mono fun ds g1 ⟨i, j, k, e1, c, p⟩ => by
  subst e1
  simp only
  rw [if_pos c]
  exact p)
theorem wp_srt (h : WR (m e g) fun ds g1 => ∃ ns, ds = [.lst (ns.map .int)] ∧ PL ((srtI ns).map .int) g1) : WR (srtM m e g) PL := WR.bind (h.mono fun ds g1 ⟨ns, e1, p⟩ => by
  subst e1
  simp only [intsOf_map]
  exact p)
theorem wp_lrg (h : WR (a e g) fun x g1 => WR (b e g1) fun y g2 => ∃ i j, x = .int i ∧ y = .int j ∧ ((-4611686018427387904 ≤ i ∧ i < 4611686018427387904) ∧ (-4611686018427387904 ≤ j ∧ j < 4611686018427387904) ∧ (j - i).toNat ≤ 16777216) ∧ PL (rngL i (j - i).toNat) g2) : WR (lrgM a b e g) PL := WR.bind (h.mono fun x g1 k => WR.bind (k.mono fun y g2 ⟨i, j, e1, e2, c, p⟩ => by
  subst e1; subst e2
  simp only
  rw [if_pos c]
  exact p))
theorem wp_idx (h : WR (a e g) fun x g1 => ∃ ds, x = .lst ds ∧ WR (b e g1) fun y g2 => ∃ j, ((flatD y = true ∧ ds.all flatD = true) ∧ (ds.map toV).findIdx? (fun z => eqV z (toV y)) = some j) ∧ P (.int (j : Nat)) g2) : WR (idxM a b e g) P := WR.bind (h.mono fun x g1 ⟨ds, e1, k⟩ => by
  subst e1
  exact WR.bind (k.mono fun y g2 ⟨j, ⟨c, hj⟩, p⟩ => by
    rw [if_pos c, hj]
    exact p))
end
/-! ### guards -/
theorem isWS {r : RS} {N T B C} (h : WS r N T B C) : WS r N T B C := h
theorem isWRD {r : R D} {P} (h : WR r P) : WR r P := h
theorem isWRB {r : R Bool} {P} (h : WR r P) : WR r P := h
theorem isWRL {r : R (List D)} {P} (h : WR r P) : WR r P := h
theorem isWRO {r : R (Option Int)} {P} (h : WR r P) : WR r P := h
theorem isOp {f a b e g P} (h : WR (opM f a b e g) P) : WR (opM f a b e g) P := h
theorem isUn {f a e g P} (h : WR (unM f a e g) P) : WR (unM f a e g) P := h
theorem isBop {f a b e g P} (h : WR (boolM (opM f a b) e g) P) : WR (boolM (opM f a b) e g) P := h
theorem isBun {f a e g P} (h : WR (boolM (unM f a) e g) P) : WR (boolM (unM f a) e g) P := h
theorem isBr {p PB g} (h : Br p PB g) : Br p PB g := h
theorem isEx {α : Sort _} {p : α → Prop} (h : Exists p) : Exists p := h
theorem isAnd {p q : Prop} (h : p ∧ q) : p ∧ q := h
theorem isIte {p A B : Prop} [Decidable p] (h : if p then A else B) : if p then A else B := h
theorem isEq2 {x y PB g} (h : Eq2 x y PB g) : Eq2 x y PB g := h
theorem isAdd2 {x y P g} (h : Add2 x y P g) : Add2 x y P g := h
theorem isMul2 {x y P g} (h : Mul2 x y P g) : Mul2 x y P g := h
theorem isEq {α : Sort _} {x y : α} (h : x = y) : x = y := h
theorem isOr {p q : Prop} (h : p ∨ q) : p ∨ q := h
end Ev
namespace Ev
open PySem L2
/-! ### generators -/
def WG (r : RG) (P : Env → List D → List Cell → Prop) : Prop := match r with
  | .nx e ys g => P e ys g
  | .bad => False
section
variable {e : Env} {g : List Cell} {ys : List D} {P : Env → List D → List Cell → Prop} {s1 : MS} {a : M D} {t : M Bool} {x y : MG}
theorem WG.mono {r : RG} {P Q : Env → List D → List Cell → Prop} (h : WG r P) (k : ∀ e ys g, P e ys g → Q e ys g) : WG r Q := by
  cases r with
  | nx e ys g => exact k _ _ _ h
  | bad => exact h
theorem wg_plain (h : WS (s1 e g) (fun e1 g1 => P e1 ys g1) (fun _ _ => False) (fun _ _ => False) fun _ _ => False) : WG (plG s1 e ys g) P := by
  unfold plG
  cases q : s1 e g <;> rw [q] at h <;> exact h
theorem wg_yield (h : WR (a e g) fun d g1 => (flatD d = true ∧ ys.length < 16777216) ∧ P e (ys ++ [d]) g1) : WG (yldG a e ys g) P := by
  unfold yldG
  cases q : a e g with
  | ok d g1 =>
    rw [q] at h
    have h : (flatD d = true ∧ ys.length < 16777216) ∧ P e (ys ++ [d]) g1 := h
    simp only
    rw [if_pos h.1]
    exact h.2
  | ex _ _ _ => rw [q] at h; exact h
  | bad => rw [q] at h; exact h
theorem wg_skip (h : P e ys g) : WG (skipG e ys g) P := h
theorem wg_seq (h : WG (x e ys g) fun e1 ys1 g1 => WG (y e1 ys1 g1) P) : WG (seqG x y e ys g) P := by
  unfold seqG
  cases q : x e ys g <;> rw [q] at h <;> exact h
theorem wg_wh (Q : Nat → Env → List D → List Cell → Prop) {n k : Nat} (hn : k < n) (q : Q k e ys g)
    (h : ∀ k e ys g, Q k e ys g → WR (t e g) fun b g1 => if b = true then WG (x e ys g1) (fun e2 ys2 g2 => ∃ j, j < k ∧ Q j e2 ys2 g2) else P e ys g1) : WG (whG t x n e ys g) P := by
  induction n generalizing e ys g k with
  | zero => exact absurd hn (Nat.not_lt_zero _)
  | succ n ih =>
    have h1 := h k e ys g q
    unfold whG
    cases z : t e g with
    | ex _ _ _ => rw [z] at h1; exact h1
    | bad => rw [z] at h1; exact h1
    | ok b g1 =>
      rw [z] at h1
      cases b with
      | false => exact h1
      | true =>
        have h1 : WG (x e ys g1) (fun e2 ys2 g2 => ∃ j, j < k ∧ Q j e2 ys2 g2) := h1
        simp only [if_true]
        cases z2 : x e ys g1 with
        | bad => rw [z2] at h1; exact h1
        | nx e2 ys2 g2 =>
          rw [z2] at h1
          obtain ⟨j, hj, h2⟩ : ∃ j, j < k ∧ Q j e2 ys2 g2 := h1
          exact ih (by omega) h2
theorem wg_fn {n k : Nat} {body : MG} {ds : List D} {PL : List D → List Cell → Prop} (hl : ds.length = n) (h : WG (body (ds.map .v ++ List.replicate (k - n) .no) [] g) fun _ ys g1 => ys.all flatD = true ∧ PL ys g1) : WR (genF n k body ds g) PL := by
  unfold genF
  rw [if_pos hl]
  cases q : body (ds.map .v ++ List.replicate (k - n) .no) [] g with
  | bad => rw [q] at h; exact h.elim
  | nx e1 ys g1 =>
    rw [q] at h
    have h : ys.all flatD = true ∧ PL ys g1 := h
    simp only
    rw [if_pos h.1]
    exact h.2
theorem wp_genM {n : Nat} {f : List D → List Cell → R (List D)} {m : M (List D)} {PL : List D → List Cell → Prop} (h : WR (m e g) fun ds g1 => ds.length = n ∧ WR (f ds g1) fun ys g2 => ys.all flatD = true ∧ PL ys g2) : WR (genM n f m e g) PL := WR.bind (h.mono fun ds g1 ⟨hl, p⟩ => by
  rw [if_pos hl]
  cases q : f ds g1 with
  | ok ys g2 =>
    rw [q] at p
    have p : ys.all flatD = true ∧ PL ys g2 := p
    simp only
    rw [if_pos p.1]
    exact p.2
  | ex _ _ _ => rw [q] at p; exact p.elim
  | bad => rw [q] at p; exact p.elim)
theorem wp_star {a : M D} {r : M (List D)} {PL : List D → List Cell → Prop} (h : WR (a e g) fun d g1 => (∃ xs, d = .tup xs ∧ WR (r e g1) fun ys g2 => PL (xs ++ ys) g2) ∨ ∃ xs, d = .lst xs ∧ WR (r e g1) fun ys g2 => PL (xs ++ ys) g2) : WR (starM a r e g) PL := WR.bind (h.mono fun d g1 q => by
  rcases q with ⟨xs, rfl, q⟩ | ⟨xs, rfl, q⟩
  · exact WR.bind q
  · exact WR.bind q)
theorem wp_sameM {α : Type} {m : M α} {PL : α → List Cell → Prop} (h : WR (m e g) fun a g1 => g1.length = g.length ∧ PL a g1) : WR (sameM m e g) PL := by
  unfold sameM
  cases q : m e g with
  | ok a g1 =>
    rw [q] at h
    have h : g1.length = g.length ∧ PL a g1 := h
    simp only
    rw [if_pos h.1]
    exact h.2
  | ex _ _ _ => rw [q] at h; exact h
  | bad => rw [q] at h; exact h
theorem wp_sameB {m : M Bool} {PL : Bool → List Cell → Prop} (h : WR (m e g) fun a g1 => g1.length = g.length ∧ PL a g1) : WR (sameB m e g) PL := wp_sameM h
theorem wp_sameS {s : MS} {N B C : Env → List Cell → Prop} {T : D → List Cell → Prop} (h : WS (s e g) (fun e1 g1 => g1.length = g.length ∧ N e1 g1) (fun _ _ => False) (fun _ _ => False) fun _ _ => False) : WS (sameS s e g) N T B C := by
  unfold sameS
  cases q : s e g <;> rw [q] at h <;> try exact h.elim
  rename_i e1 g1
  have h : g1.length = g.length ∧ N e1 g1 := h
  simp only
  rw [if_pos h.1]
  exact h.2
theorem wp_genI {n : Nat} {f : List D → List Cell → R (List D)} {m : M (List D)} {PL : List D → List Cell → Prop} (h : WR (m e g) fun ds g1 => ds.length = n ∧ ∃ T, GenOut f ds T ∧ PL T g1) : WR (genI n f m e g) PL := WR.bind (h.mono fun ds g1 ⟨hl, T, ⟨h1, h2⟩, p⟩ => by
  rw [if_pos ⟨hl, h1⟩, h2]
  exact p)
theorem wp_augI {i : Nat} {ds : List D} {mi m : M D} {N : Env → List Cell → Prop} {T : D → List Cell → Prop} {B C : Env → List Cell → Prop} (hi : e[i]? = some (.own ds)) (h : WR (mi e g) fun k g1 => ∃ kk a, k = .int kk ∧ 0 ≤ kk ∧ ds[kk.toNat]? = some (.int a) ∧ WR (m e g1) fun d g2 => ∃ b, d = .int b ∧ N (e.set i (.own (ds.set kk.toNat (.int (a + b))))) g2) : WS (augIS i mi m e g) N T B C := by
  unfold augIS
  rw [hi]
  refine WS.toS (h.mono fun k g1 ⟨kk, a, e1, e2, e3, p⟩ => ?_)
  subst e1
  simp only [e3, if_pos e2]
  refine WS.toS (p.mono fun d g2 ⟨b, e4, p⟩ => ?_)
  subst e4
  exact p
end
end Ev
namespace Ev
open PySem L2
/-! ### objects in cells -/
section
variable {e : Env} {g : List Cell} {P : D → List Cell → Prop} {a mo : M D} {ma mk : M (List D)} {c n k : Nat} {f : List D → List Cell → R D}
theorem cob_at {i : Nat} {d : D} (h : g[i]? = some (.ob c d)) : cobD c (.g i) g = some d := by
  unfold cobD
  simp only [h, if_true]
theorem wp_cob (h : WR (a e g) fun x g1 => ∃ i d, x = .g i ∧ g1[i]? = some (.ob c d) ∧ P d g1) : WR (unM (cobD c) a e g) P := wp_un (h.mono fun x g1 ⟨i, d, e1, e2, p⟩ => ⟨d, by subst e1; exact cob_at e2, p⟩)
theorem wp_setOb {i j : Nat} {N : Env → List Cell → Prop} {T : D → List Cell → Prop} {B C : Env → List Cell → Prop} (hi : e[i]? = some (.v (.g j))) (h : WR (a e g) fun d g1 => (∃ d0, g1[j]? = some (.ob c d0)) ∧ N e (g1.set j (.ob c d))) : WS (setOb c i a e g) N T B C := by
  unfold setOb
  rw [hi]
  refine WS.toS (h.mono fun d g1 ⟨⟨d0, q⟩, p⟩ => ?_)
  simp only [cob_at q, Option.isSome_some, if_true]
  exact p
theorem wp_mth (h : WR (mo e g) fun x g1 => ∃ i d0, x = .g i ∧ g1[i]? = some (.ob c d0) ∧ WR (ma e g1) fun ds g2 => (∃ d1, g2[i]? = some (.ob c d1)) ∧ ds.length + 1 = n ∧ WR (f (.g i :: ds) g2) P) : WR (mthM c n f mo ma e g) P := WR.bind (h.mono fun x g1 ⟨i, d0, e1, e2, p⟩ => by
  subst e1
  simp only [cob_at e2, Option.isSome_some, if_true]
  refine WR.bind (p.mono fun ds g2 ⟨⟨d1, e3⟩, e4, p⟩ => ?_)
  rw [if_pos ⟨by rw [cob_at e3]; rfl, e4⟩]
  exact p)
theorem wp_prp (h : WR (mo e g) fun x g1 => ∃ i d0, x = .g i ∧ g1[i]? = some (.ob c d0) ∧ WR (f [.g i] g1) P) : WR (prpM c f mo e g) P := WR.bind (h.mono fun x g1 ⟨i, d0, e1, e2, p⟩ => by
  subst e1
  simp only [cob_at e2, Option.isSome_some, if_true]
  exact p)
theorem wp_mkC (h : WR (ma e g) fun ds g1 => WR (f ds g1) fun d g2 => P (.g g2.length) (g2 ++ [.ob c d])) : WR (mkCM c f ma e g) P := WR.bind (h.mono fun ds g1 p => WR.bind (p.mono fun d g2 p => p))
theorem wp_mkK (h : WR (ma e g) fun ds g1 => WR (mk e g1) fun zs g2 => (ds.length = n ∧ zs.length = k) ∧ WR (f (ds ++ zs) g2) fun d g3 => P (.g g3.length) (g3 ++ [.ob c d])) : WR (mkKM c n k f ma mk e g) P := WR.bind (h.mono fun ds g1 p => WR.bind (p.mono fun zs g2 ⟨hl, p⟩ => by
  rw [if_pos hl]
  exact WR.bind (p.mono fun d g3 p => p)))
theorem wp_dnew (h : P (.g g.length) (g ++ [.dct []])) : WR (dNewM e g) P := h
theorem wp_done {i j : Int} (h : P (.dct [(i, j)]) g) : WR (dOneM i j e g) P := h
theorem wp_callD (h : WR (ma e g) fun ds g1 => ds.length = n ∧ WR (f ds g1) fun d g2 => ∃ kvs, d = .g g1.length ∧ g2 = g1 ++ [.dct kvs] ∧ P (.dct kvs) g1) : WR (callDM n f ma e g) P := WR.bind (h.mono fun ds g1 ⟨l, p⟩ => by
  rw [if_pos l]
  obtain ⟨d, g2, e1, kvs, rfl, rfl, hp⟩ := p.ex
  rw [e1, dropC_ok]
  exact hp)
theorem wp_lck {i : Nat} {kvs : List (Int × Int)} {ml : M (List D)} {PL : List D → List Cell → Prop} (hi : e[i]? = some (.v (.dct kvs))) (h : WR (ml e g) PL) : WR (lckM i ml e g) PL := by
  unfold lckM
  rw [hi]
  obtain ⟨d, g2, e1, hp⟩ := h.ex
  simp only
  rw [e1]
  exact hp
theorem wp_items {i : Nat} {kvs : List (Int × Int)} {PL : List D → List Cell → Prop} (hi : e[i]? = some (.v (.dct kvs))) (h : PL (itmL kvs) g) : WR (itemsIt i e g) PL := by
  unfold itemsIt
  rw [hi]
  exact h
theorem wp_dput {mv mi : M D} {N : Env → List Cell → Prop} {T : D → List Cell → Prop} {B C : Env → List Cell → Prop} (h : WR (mv e g) fun d g1 => WR (mo e g1) fun x g2 => WR (mi e g2) fun y g3 => ∃ v n k kvs, d = .int v ∧ x = .g n ∧ y = .int k ∧ g3[n]? = some (.dct kvs) ∧ kvs.length < 16777216 ∧ N e (g3.set n (.dct (putI kvs k v)))) : WS (dputS mv mo mi e g) N T B C :=
  WS.toS (h.mono fun d g1 p => WS.toS (p.mono fun x g2 p => WS.toS (p.mono fun y g3 p => by
    obtain ⟨v, n, k, kvs, rfl, rfl, rfl, h1, h2, p⟩ := p
    simp only
    rw [h1]
    simp only
    rw [if_pos h2]
    exact p)))
theorem wp_lckS {i : Nat} {kvs : List (Int × Int)} {s1 : MS} {N : Env → List Cell → Prop} {T : D → List Cell → Prop} {B C : Env → List Cell → Prop} (hi : e[i]? = some (.v (.dct kvs))) (h : WS (s1 e g) N (fun _ _ => False) (fun _ _ => False) (fun _ _ => False)) : WS (lckS i s1 e g) N T B C := by
  unfold lckS
  rw [hi]
  simp only
  cases q : s1 e g <;> rw [q] at h <;> first | exact h | exact h.elim
theorem wp_new {m : M (List D)} (h : WR (m e g) fun ds g1 => P (.g g1.length) (g1 ++ [.lst ds])) : WR (newM m e g) P := WR.bind (h.mono fun _ _ p => p)
theorem wp_appC {mo m : M D} {N : Env → List Cell → Prop} {T : D → List Cell → Prop} {B C : Env → List Cell → Prop} (h : WR (mo e g) fun x g0 => ∃ n ds0, x = .g n ∧ g0[n]? = some (.lst ds0) ∧ WR (m e g0) fun d g1 => ∃ ds, g1[n]? = some (.lst ds) ∧ ds.length < 16777216 ∧ N e (g1.set n (.lst (ds ++ [d])))) : WS (appC mo m e g) N T B C :=
  WS.toS (h.mono fun x g0 ⟨n, ds0, e1, e2, k⟩ => by
    subst e1
    simp only [e2]
    exact WS.toS (k.mono fun d g1 ⟨ds, e3, l, p⟩ => by
      simp only [e3]
      rw [if_pos l]
      exact p))
theorem wp_lstC {mo : M D} {PL : List D → List Cell → Prop} (h : WR (mo e g) fun x g1 => ∃ n ds, x = .g n ∧ g1[n]? = some (.lst ds) ∧ PL ds g1) : WR (lstC mo e g) PL := WR.bind (h.mono fun x g1 ⟨n, ds, e1, e2, p⟩ => by
  subst e1
  simp only [e2]
  exact p)
theorem wp_addF {a b : M D} {PL : List D → List Cell → Prop} (h : WR (a e g) fun x g1 => WR (b e g1) fun y g2 => ∃ xs ys, x = .lst xs ∧ y = .lst ys ∧ xs.length + ys.length ≤ 16777216 ∧ PL (xs ++ ys) g2) : WR (addFF a b e g) PL :=
  WR.bind (h.mono fun x g1 k => WR.bind (k.mono fun y g2 ⟨xs, ys, e1, e2, l, p⟩ => by
    subst e1 e2
    simp only
    rw [if_pos l]
    exact p))
end
end Ev

namespace LW
/-! Ct: lives and rules, plain -/
/-- a life; none: for ever -/
abbrev Lf := Option Int
def LeL : Lf → Lf → Prop
  | _, none => True
  | none, some _ => False
  | some a, some b => a ≤ b
instance LeL.dec : ∀ a b, Decidable (LeL a b)
  | _, none => isTrue (by unfold LeL; trivial)
  | none, some _ => isFalse (fun h => h)
  | some a, some b => inferInstanceAs (Decidable (a ≤ b))
theorem LeL.top (a : Lf) : LeL a none := by cases a <;> trivial
theorem LeL.refl (a : Lf) : LeL a a := by cases a <;> simp [LeL]
theorem LeL.trans {a b c : Lf} (h : LeL a b) (k : LeL b c) : LeL a c := by
  cases a <;> cases b <;> cases c <;> simp_all [LeL]
  omega
theorem LeL.total (a b : Lf) : LeL a b ∨ LeL b a := by
  cases a <;> cases b <;> simp [LeL]
  omega
/-- the life with an index -/
def at0 (L : List Lf) (i : Nat) : Lf := L.getD i none
/-- the life of a rank -/
def fl (L : List Lf) (j : Nat) : Lf := at0 L (min j (L.length - 1))
structure Lives (L : List Lf) : Prop where
  ne : 0 < L.length
  up : ∀ i, i + 1 < L.length → LeL (at0 L i) (at0 L (i + 1))
  nn : ∀ n, some n ∈ L → 0 ≤ n
structure Given (L : List Lf) : Prop extends Lives L where
  most : L.length ≤ 61
  fin : ∀ i, i + 1 < L.length → ∃ n, at0 L i = some n
  small : ∀ n, some n ∈ L → n ≤ 1000000000000000000
theorem at0_eq {L : List Lf} {i : Nat} (h : i < L.length) : L[i]? = some (at0 L i) := by
  unfold at0; rw [List.getD_eq_getElem?_getD, List.getElem?_eq_getElem h]; rfl
theorem at0_mem {L : List Lf} {i : Nat} (h : i < L.length) : at0 L i ∈ L := List.mem_of_getElem? (at0_eq h)
theorem at0_take {L : List Lf} {i n : Nat} (h : i < n) : at0 (L.take n) i = at0 L i := by
  unfold at0; rw [List.getD_eq_getElem?_getD, List.getD_eq_getElem?_getD, List.getElem?_take_of_lt h]
theorem fl_lt {L : List Lf} {j : Nat} (h : j < L.length) : fl L j = at0 L j := by unfold fl; rw [Nat.min_eq_left (by omega)]
theorem fl_last {L : List Lf} {j : Nat} (h : L.length ≤ j + 1) : fl L j = at0 L (L.length - 1) := by unfold fl; rw [Nat.min_eq_right (by omega)]
theorem Lives.mono_at {L : List Lf} (h : Lives L) {i j : Nat} (hij : i ≤ j) (hj : j < L.length) : LeL (at0 L i) (at0 L j) := by
  induction j with
  | zero => rw [Nat.le_zero.mp hij]; exact LeL.refl _
  | succ j ih =>
    by_cases q : i = j + 1
    · rw [q]; exact LeL.refl _
    · exact (ih (by omega) (by omega)).trans (h.up j hj)
theorem Lives.mono {L : List Lf} (h : Lives L) {i j : Nat} (hij : i ≤ j) : LeL (fl L i) (fl L j) :=
  h.mono_at (by omega) (by have := h.ne; omega)
theorem Lives.fl_mem {L : List Lf} (h : Lives L) (j : Nat) : fl L j ∈ L := at0_mem (by have := h.ne; omega)
theorem Lives.fl_nn {L : List Lf} (h : Lives L) {j : Nat} {n : Int} (e : fl L j = some n) : 0 ≤ n := h.nn n (e ▸ h.fl_mem j)
/-- where the shortest tuple ends -/
def cutAt (L : List Lf) : Nat → Nat
  | 0 => 0
  | k + 1 => if 0 < k ∧ at0 L k = at0 L (k - 1) then cutAt L k else k + 1
def short (L : List Lf) : List Lf := L.take (cutAt L L.length)
theorem cutAt_le (L : List Lf) (k : Nat) : cutAt L k ≤ k := by
  induction k with
  | zero => exact Nat.le_refl _
  | succ k ih => unfold cutAt; split <;> omega
theorem cutAt_pos (L : List Lf) (k : Nat) (h : 0 < k) : 0 < cutAt L k := by
  induction k with
  | zero => omega
  | succ k ih => unfold cutAt; split <;> omega
theorem cutAt_tail (L : List Lf) (k i : Nat) (h : cutAt L k ≤ i + 1) (hi : i < k) : at0 L i = at0 L (k - 1) := by
  induction k with
  | zero => omega
  | succ k ih =>
    unfold cutAt at h
    split at h
    · rename_i q
      by_cases z : i = k
      · subst z; rfl
      · rw [ih h (by omega), show k + 1 - 1 = k by omega]; exact q.2.symm
    · rw [show i = k + 1 - 1 by omega]
theorem cutAt_tight (L : List Lf) (k : Nat) (h : 1 < cutAt L k) : at0 L (cutAt L k - 1) ≠ at0 L (cutAt L k - 2) := by
  induction k with
  | zero => unfold cutAt at h; omega
  | succ k ih =>
    unfold cutAt at h ⊢
    split
    · rename_i q; rw [if_pos q] at h; exact ih h
    · rename_i q
      rw [if_neg q] at h
      intro z
      exact q ⟨by omega, z⟩
theorem short_length (L : List Lf) : (short L).length = cutAt L L.length := by
  unfold short; rw [List.length_take, Nat.min_eq_left (cutAt_le ..)]
theorem short_le (L : List Lf) : (short L).length ≤ L.length := by rw [short_length]; exact cutAt_le ..
theorem short_pos {L : List Lf} (h : 0 < L.length) : 0 < (short L).length := by rw [short_length]; exact cutAt_pos _ _ h
theorem short_at {L : List Lf} {i : Nat} (h : i < (short L).length) : at0 (short L) i = at0 L i := by
  rw [short_length] at h; exact at0_take h
theorem fl_short {L : List Lf} (h : 0 < L.length) (j : Nat) : fl (short L) j = fl L j := by
  have h1 := short_pos h
  have h2 := short_le L
  unfold fl
  rw [short_at (by omega)]
  by_cases q : j < (short L).length
  · rw [show min j ((short L).length - 1) = min j (L.length - 1) by omega]
  · rw [show min j ((short L).length - 1) = (short L).length - 1 by omega]
    have a := cutAt_tail L L.length ((short L).length - 1) (by rw [short_length]; omega) (by omega)
    have b := cutAt_tail L L.length (min j (L.length - 1)) (by rw [← short_length]; omega) (by omega)
    rw [a, b]
/-- no two last lives are equal -/
def Tight (L : List Lf) : Prop := 1 < L.length → at0 L (L.length - 1) ≠ at0 L (L.length - 2)
theorem short_tight (L : List Lf) : Tight (short L) := by
  intro h
  rw [short_at (by omega), short_at (by omega)]
  rw [short_length] at h ⊢
  exact cutAt_tight _ _ h
theorem short_mem {L : List Lf} {x : Lf} (h : x ∈ short L) : x ∈ L := List.mem_of_mem_take h
theorem Lives.short {L : List Lf} (h : Lives L) : Lives (short L) where
  ne := short_pos h.ne
  up := fun i hi => by rw [short_at (by omega), short_at hi]; exact h.up i (by have := short_le L; omega)
  nn := fun n hn => h.nn n (short_mem hn)
theorem Given.short {L : List Lf} (h : Given L) : Given (short L) where
  toLives := h.toLives.short
  most := Nat.le_trans (short_le L) h.most
  fin := fun i hi => by rw [short_at (by omega)]; exact h.fin i (by have := short_le L; omega)
  small := fun n hn => h.small n (short_mem hn)
theorem ext_at {L M : List Lf} (hl : L.length = M.length) (h : ∀ i, i < L.length → at0 L i = at0 M i) : L = M := by
  apply List.ext_getElem? 
  intro i
  by_cases q : i < L.length
  · rw [at0_eq q, at0_eq (hl ▸ q), h i q]
  · rw [List.getElem?_eq_none (by omega), List.getElem?_eq_none (by omega)]
theorem tight_inj {L M : List Lf} (hL : 0 < L.length) (hM : 0 < M.length) (tL : Tight L) (tM : Tight M) (h : ∀ j, fl L j = fl M j) : L = M := by
  have key : ∀ {L M : List Lf}, 0 < L.length → 0 < M.length → Tight L → (∀ j, fl L j = fl M j) → L.length ≤ M.length := by
    intro L M hL hM tL h
    apply Nat.le_of_not_lt
    intro q
    apply tL (by omega)
    have a := h (L.length - 1)
    have b := h (L.length - 2)
    rw [fl_lt (by omega), fl_last (L := M) (by omega)] at a
    rw [fl_lt (by omega), fl_last (L := M) (by omega)] at b
    rw [a, b]
  have hl : L.length = M.length := Nat.le_antisymm (key hL hM tL h) (key hM hL tM fun j => (h j).symm)
  exact ext_at hl fun i hi => by rw [← fl_lt hi, ← fl_lt (hl ▸ hi), h]
theorem tight_short {L : List Lf} (h : 0 < L.length) (t : Tight L) : short L = L := tight_inj (short_pos h) h (short_tight L) t fun j => fl_short h j
/-! sums -/
def sumTo (f : Nat → Int) : Nat → Int
  | 0 => 0
  | k + 1 => sumTo f k + f k
theorem sumTo_congr {f h : Nat → Int} {n : Nat} (e : ∀ i, i < n → f i = h i) : sumTo f n = sumTo h n := by
  induction n with
  | zero => rfl
  | succ n ih => rw [sumTo, sumTo, ih fun i hi => e i (by omega), e n (by omega)]
theorem sumTo_mul (f : Nat → Int) (c : Int) (n : Nat) : sumTo (fun i => f i * c) n = sumTo f n * c := by
  induction n with
  | zero => simp [sumTo]
  | succ n ih => rw [sumTo, sumTo, ih]; grind
theorem sumTo_add (f h : Nat → Int) (n : Nat) : sumTo (fun i => f i + h i) n = sumTo f n + sumTo h n := by
  induction n with
  | zero => rfl
  | succ n ih => rw [sumTo, sumTo, sumTo, ih]; grind
/-- the number of a finite life -/
def num (l : Lf) : Int := l.getD 0
/-- the average times 2 to the power of the last index -/
def avS (L : List Lf) (m : Nat) : Int := num (at0 L m) + sumTo (fun i => num (at0 L i) * 2 ^ (m - 1 - i)) m
theorem avS_step {L : List Lf} {m : Nat} (h : at0 L (m + 1) = at0 L m) : avS L (m + 1) = 2 * avS L m := by
  unfold avS
  rw [h, sumTo, show m + 1 - 1 - m = 0 by omega, Int.pow_zero]
  have : sumTo (fun i => num (at0 L i) * 2 ^ (m + 1 - 1 - i)) m = sumTo (fun i => num (at0 L i) * 2 ^ (m - 1 - i) * 2) m := sumTo_congr fun i hi => by
    rw [show m + 1 - 1 - i = (m - 1 - i) + 1 by omega, Int.pow_succ]
    grind
  rw [this, sumTo_mul]
  grind
theorem avS_cut (L : List Lf) (k : Nat) : avS L k = 2 ^ (k + 1 - cutAt L (k + 1)) * avS L (cutAt L (k + 1) - 1) := by
  induction k with
  | zero => simp [cutAt]
  | succ k ih =>
    rw [cutAt]
    split
    · rename_i q
      rw [avS_step q.2, ih]
      have := cutAt_le L (k + 1)
      rw [show k + 1 + 1 - cutAt L (k + 1) = (k + 1 - cutAt L (k + 1)) + 1 by omega, Int.pow_succ]
      grind
    · simp
theorem avS_short {L : List Lf} (h : 0 < L.length) : avS L (L.length - 1) = 2 ^ (L.length - (short L).length) * avS (short L) ((short L).length - 1) := by
  have a := avS_cut L (L.length - 1)
  rw [show L.length - 1 + 1 = L.length by omega, ← short_length] at a
  rw [a]
  congr 1
  have hp := short_pos h
  unfold avS
  rw [short_at (by omega)]
  congr 1
  exact sumTo_congr fun i hi => by rw [short_at (by omega)]
/-- lives that grow, the last one up to h -/
structure Acc (L : List Lf) (h : Int) : Prop where
  fin : ∀ x ∈ L, ∃ n : Int, x = some n ∧ 0 ≤ n ∧ n ≤ h
  up : ∀ i, i + 1 < L.length → LeL (at0 L i) (at0 L (i + 1))
theorem Acc.nil (h : Int) : Acc [] h := ⟨fun _ hx => (nomatch hx), fun i hi => by simp at hi⟩
theorem at0_append_left {L M : List Lf} {i : Nat} (h : i < L.length) : at0 (L ++ M) i = at0 L i := by
  unfold at0; rw [List.getD_eq_getElem?_getD, List.getD_eq_getElem?_getD, List.getElem?_append_left h]
theorem at0_append_last {L : List Lf} {x : Lf} : at0 (L ++ [x]) L.length = x := by
  unfold at0; rw [List.getD_eq_getElem?_getD, List.getElem?_append_right (Nat.le_refl _), Nat.sub_self]; rfl
theorem Acc.push {L : List Lf} {h h' : Int} (a : Acc L h) (h0 : 0 ≤ h') (k : h ≤ h') : Acc (L ++ [some h']) h' := by
  refine ⟨fun x hx => ?_, fun i hi => ?_⟩
  · rcases List.mem_append.mp hx with hx | hx
    · obtain ⟨n, e, n0, n1⟩ := a.fin x hx
      exact ⟨n, e, n0, by omega⟩
    · rw [List.mem_singleton.mp hx]
      exact ⟨h', rfl, h0, Int.le_refl _⟩
  · rw [List.length_append, List.length_singleton] at hi
    by_cases q : i + 1 < L.length
    · rw [at0_append_left (by omega), at0_append_left q]; exact a.up i q
    · have e : i + 1 = L.length := by omega
      rw [at0_append_left (by omega), e, at0_append_last]
      obtain ⟨n, e2, n0, n1⟩ := a.fin _ (at0_mem (L := L) (i := i) (by omega))
      rw [e2]
      exact (show n ≤ h' by omega)
theorem Acc.mono {L : List Lf} {h h' : Int} (a : Acc L h) (k : h ≤ h') : Acc L h' := ⟨fun x hx => let ⟨n, e, n0, n1⟩ := a.fin x hx; ⟨n, e, n0, by omega⟩, a.up⟩
theorem Acc.given {L : List Lf} {h : Int} (a : Acc L h) (h1 : 0 < L.length) (h2 : L.length ≤ 61) (hh : h ≤ 1000000000000000000) : Given L where
  ne := h1
  up := a.up
  nn := fun n hn => by obtain ⟨m, e, m0, m1⟩ := a.fin _ hn; cases e; exact m0
  most := h2
  fin := fun i hi => by obtain ⟨m, e, m0, m1⟩ := a.fin _ (at0_mem (L := L) (i := i) (by omega)); exact ⟨m, e⟩
  small := fun n hn => by obtain ⟨m, e, m0, m1⟩ := a.fin _ hn; cases e; omega
/-- the last life for ever -/
theorem Given.ended {L : List Lf} (h : Given L) : Given (L.take (L.length - 1) ++ [none]) := by
  have h1 := h.ne
  have hl : (L.take (L.length - 1)).length = L.length - 1 := by rw [List.length_take]; omega
  have hl2 : (L.take (L.length - 1) ++ [none]).length = L.length := by rw [List.length_append, hl, List.length_singleton]; omega
  have e : ∀ i, i + 1 < L.length → at0 (L.take (L.length - 1) ++ [none]) i = at0 L i := fun i hi => by
    rw [at0_append_left (by omega), at0_take (by omega)]
  refine ⟨⟨by omega, fun i hi => ?_, fun n hn => ?_⟩, by rw [hl2]; exact h.most, fun i hi => ?_, fun n hn => ?_⟩
  · rw [hl2] at hi
    rw [e i hi]
    by_cases q : i + 2 < L.length
    · rw [e (i + 1) q]; exact h.up i hi
    · rw [show i + 1 = (L.take (L.length - 1)).length by omega, at0_append_last]; exact LeL.top _
  · rcases List.mem_append.mp hn with hx | hx
    · exact h.nn n (List.mem_of_mem_take hx)
    · cases List.mem_singleton.mp hx
  · rw [hl2] at hi
    rw [e i hi]; exact h.fin i hi
  · rcases List.mem_append.mp hn with hx | hx
    · exact h.small n (List.mem_of_mem_take hx)
    · cases List.mem_singleton.mp hx
/-! the least index -/
def least (P : Nat → Bool) : Nat → Option Nat
  | 0 => none
  | n + 1 => match least P n with
    | some j => some j
    | none => if P n = true then some n else none
theorem least_none {P : Nat → Bool} {n : Nat} : least P n = none ↔ ∀ i, i < n → P i = false := by
  induction n with
  | zero => simp [least]
  | succ n ih =>
    rw [least]
    cases e : least P n with
    | some j =>
      simp only [reduceCtorEq, false_iff]
      intro h
      rw [ih.mpr fun i hi => h i (by omega)] at e
      cases e
    | none =>
      have h := ih.mp e
      by_cases q : P n = true
      · rw [if_pos q]
        simp only [reduceCtorEq, false_iff]
        intro z
        have := z n (by omega)
        rw [q] at this
        cases this
      · rw [if_neg q]
        simp only [true_iff]
        intro i hi
        by_cases w : i = n
        · subst w; simpa using q
        · exact h i (by omega)
theorem least_some {P : Nat → Bool} {n j : Nat} : least P n = some j ↔ j < n ∧ P j = true ∧ ∀ i, i < j → P i = false := by
  induction n with
  | zero => simp [least]
  | succ n ih =>
    rw [least]
    cases e : least P n with
    | some k =>
      simp only
      rw [← e, ih]
      constructor
      · rintro ⟨a, b, c⟩; exact ⟨by omega, b, c⟩
      · rintro ⟨a, b, c⟩
        refine ⟨?_, b, c⟩
        apply Nat.lt_of_not_le
        intro q
        have hj : j = n := by omega
        subst hj
        rw [least_none.mpr c] at e
        cases e
    | none =>
      have h := least_none.mp e
      by_cases q : P n = true
      · rw [if_pos q]
        constructor
        · intro z; cases z; exact ⟨by omega, q, h⟩
        · rintro ⟨a, b, c⟩
          by_cases w : j = n
          · rw [w]
          · rw [h j (by omega)] at b; cases b
      · rw [if_neg q]
        constructor
        · intro z; cases z
        · rintro ⟨a, b, c⟩
          by_cases w : j = n
          · subst w; exact absurd b q
          · rw [h j (by omega)] at b; cases b
/-- whether the life with an index is enough for an age -/
def en (L : List Lf) (a : Int) (j : Nat) : Bool := decide (LeL (some (a + 2 ^ j)) (at0 L j))
/-- the worst distance at an age -/
def worstL (L : List Lf) (a : Int) : Lf := (least (en L a) L.length).map fun j => 2 ^ j - 1
/-- what a rule promises, by its first lives -/
def prom (L : List Lf) : Nat → List (Lf × Int) × Int
  | 0 => ([], -1)
  | i + 1 => match at0 L i with
    | none => ((prom L i).1 ++ [(none, 2 ^ i - 1)], (prom L i).2)
    | some n => if (prom L i).2 < n - 2 ^ i then ((prom L i).1 ++ [(some (n - 2 ^ i), 2 ^ i - 1)], n - 2 ^ i) else prom L i
/-- another last life -/
theorem Given.put {L : List Lf} {x : Lf} (h : Given L) (hx : LeL (at0 L (L.length - 1)) x) (hb : ∀ n, x = some n → n ≤ 1000000000000000000) : Given (L.take (L.length - 1) ++ [x]) := by
  have h1 := h.ne
  have hl : (L.take (L.length - 1)).length = L.length - 1 := by rw [List.length_take]; omega
  have hl2 : (L.take (L.length - 1) ++ [x]).length = L.length := by rw [List.length_append, hl, List.length_singleton]; omega
  have e : ∀ i, i + 1 < L.length → at0 (L.take (L.length - 1) ++ [x]) i = at0 L i := fun i hi => by
    rw [at0_append_left (by omega), at0_take (by omega)]
  have hn : ∀ n, x = some n → 0 ≤ n := fun n hn => by
    subst hn
    cases q : at0 L (L.length - 1) with
    | none => rw [q] at hx; exact hx.elim
    | some m =>
      rw [q] at hx
      have := h.nn m (q ▸ at0_mem (by omega))
      have hx : m ≤ n := hx
      omega
  refine ⟨⟨by omega, fun i hi => ?_, fun n hn' => ?_⟩, by rw [hl2]; exact h.most, fun i hi => ?_, fun n hn' => ?_⟩
  · rw [hl2] at hi
    rw [e i hi]
    by_cases q : i + 2 < L.length
    · rw [e (i + 1) q]; exact h.up i hi
    · rw [show i + 1 = (L.take (L.length - 1)).length by omega, at0_append_last]
      have := h.up i hi
      rw [show i + 1 = L.length - 1 by omega] at this
      exact this.trans hx
  · rcases List.mem_append.mp hn' with hz | hz
    · exact h.nn n (List.mem_of_mem_take hz)
    · exact hn n (List.mem_singleton.mp hz).symm
  · rw [hl2] at hi
    rw [e i hi]; exact h.fin i hi
  · rcases List.mem_append.mp hn' with hz | hz
    · exact h.small n (List.mem_of_mem_take hz)
    · exact hb n (List.mem_singleton.mp hz).symm
theorem Acc.none {L : List Lf} {h : Int} (a : Acc L h) (h2 : L.length ≤ 60) (hh : h ≤ 1000000000000000000) : Given (L ++ [Option.none]) := by
  refine ⟨⟨by simp, fun i hi => ?_, fun n hn => ?_⟩, by simp; omega, fun i hi => ?_, fun n hn => ?_⟩
  · rw [List.length_append, List.length_singleton] at hi
    by_cases q : i + 1 < L.length
    · rw [at0_append_left (by omega), at0_append_left q]; exact a.up i q
    · rw [show i + 1 = L.length by omega, at0_append_last]; exact LeL.top _
  · rcases List.mem_append.mp hn with hz | hz
    · obtain ⟨m, e, m0, m1⟩ := a.fin _ hz; cases e; exact m0
    · cases List.mem_singleton.mp hz
  · rw [List.length_append, List.length_singleton] at hi
    rw [at0_append_left (by omega)]
    obtain ⟨m, e, m0, m1⟩ := a.fin _ (at0_mem (L := L) (i := i) (by omega))
    exact ⟨m, e⟩
  · rcases List.mem_append.mp hn with hz | hz
    · obtain ⟨m, e, m0, m1⟩ := a.fin _ hz; cases e; omega
    · cases List.mem_singleton.mp hz

end LW
namespace LW
/-! Cu: rules joined, longer, compared -/
def maxL (a b : Lf) : Lf := if LeL b a then a else b
def minL (a b : Lf) : Lf := if LeL b a then b else a
def addL (t : Int) : Lf → Lf
  | none => none
  | some n => some (n + t)
theorem minL_le_left (a b : Lf) : LeL (minL a b) a := by
  unfold minL; split
  · assumption
  · exact LeL.refl _
theorem minL_le_right (a b : Lf) : LeL (minL a b) b := by
  unfold minL; split
  · exact LeL.refl _
  · rename_i h; exact (LeL.total a b).resolve_right h
theorem le_minL {a b c : Lf} (h : LeL c a) (k : LeL c b) : LeL c (minL a b) := by unfold minL; split <;> assumption
theorem le_maxL_left (a b : Lf) : LeL a (maxL a b) := by
  unfold maxL; split
  · exact LeL.refl _
  · rename_i h; exact (LeL.total a b).resolve_right h
theorem le_maxL_right (a b : Lf) : LeL b (maxL a b) := by
  unfold maxL; split
  · assumption
  · exact LeL.refl _
theorem maxL_le {a b c : Lf} (h : LeL a c) (k : LeL b c) : LeL (maxL a b) c := by unfold maxL; split <;> assumption
theorem minL_mono {a b c d : Lf} (h : LeL a c) (k : LeL b d) : LeL (minL a b) (minL c d) := le_minL ((minL_le_left _ _).trans h) ((minL_le_right _ _).trans k)
theorem maxL_mono {a b c d : Lf} (h : LeL a c) (k : LeL b d) : LeL (maxL a b) (maxL c d) := maxL_le (h.trans (le_maxL_left _ _)) (k.trans (le_maxL_right _ _))
theorem addL_mono {t : Int} {a b : Lf} (h : LeL a b) : LeL (addL t a) (addL t b) := by
  cases a <;> cases b <;> simp_all [LeL, addL]
/-- a rule's lives -/
structure Rul (L : List Lf) : Prop extends Lives L where
  tight : Tight L
  most : L.length ≤ 61
/-- bounds of the numbers -/
def Bd (M : Int) (L : List Lf) : Prop := ∀ n, some n ∈ L → n ≤ M
theorem Given.rul {L : List Lf} (h : Given L) : Rul (LW.short L) := ⟨h.toLives.short, short_tight L, h.short.most⟩
theorem Given.bd {L : List Lf} (h : Given L) : Bd 1000000000000000000 L := h.small
theorem Bd.short {M : Int} {L : List Lf} (h : Bd M L) : Bd M (LW.short L) := fun n hn => h n (short_mem hn)
theorem Bd.mono {M M' : Int} {L : List Lf} (h : Bd M L) (k : M ≤ M') : Bd M' L := fun n hn => Int.le_trans (h n hn) k
/-- rank by rank -/
def joinW (f : Lf → Lf → Lf) (L M : List Lf) : List Lf := (List.range (max L.length M.length)).map fun i => f (fl L i) (fl M i)
theorem joinW_len (f : Lf → Lf → Lf) (L M : List Lf) : (joinW f L M).length = max L.length M.length := by unfold joinW; rw [List.length_map, List.length_range]
theorem joinW_at {f : Lf → Lf → Lf} {L M : List Lf} {i : Nat} (h : i < max L.length M.length) : at0 (joinW f L M) i = f (fl L i) (fl M i) := by
  unfold at0 joinW
  rw [List.getD_eq_getElem?_getD, List.getElem?_map, List.getElem?_range h]
  rfl
theorem fl_over {L : List Lf} {i j : Nat} (h1 : L.length ≤ i + 1) (h2 : L.length ≤ j + 1) : fl L i = fl L j := by rw [fl_last h1, fl_last h2]
theorem fl_joinW {f : Lf → Lf → Lf} {L M : List Lf} (hL : 0 < L.length) (j : Nat) : fl (joinW f L M) j = f (fl L j) (fl M j) := by
  unfold fl
  rw [joinW_len, joinW_at (by omega)]
  by_cases h : j ≤ max L.length M.length - 1
  · rw [Nat.min_eq_left h]; rfl
  · rw [Nat.min_eq_right (by omega)]
    have e1 := fl_over (L := L) (i := max L.length M.length - 1) (j := j) (by omega) (by omega)
    have e2 := fl_over (L := M) (i := max L.length M.length - 1) (j := j) (by omega) (by omega)
    unfold fl at e1 e2
    unfold fl
    rw [e1, e2]
theorem lives_of_fl {L : List Lf} (h : 0 < L.length) (up : ∀ i, LeL (fl L i) (fl L (i + 1))) (nn : ∀ i n, fl L i = some n → 0 ≤ n) : Lives L := by
  refine ⟨h, fun i hi => ?_, fun n hn => ?_⟩
  · have := up i
    rwa [fl_lt (by omega), fl_lt hi] at this
  · obtain ⟨i, hi, e⟩ := List.getElem_of_mem hn
    refine nn i n ?_
    rw [fl_lt hi, ← e]
    exact (Option.some.inj ((at0_eq hi).symm.trans (List.getElem?_eq_getElem hi)))
theorem Bd.fl {L : List Lf} {M : Int} (h : Bd M L) (hL : 0 < L.length) {i : Nat} {n : Int} (e : fl L i = some n) : n ≤ M := h n (by rw [← e]; exact at0_mem (by omega))
theorem Lives.fl_up {L : List Lf} (h : Lives L) (i : Nat) : LeL (LW.fl L i) (LW.fl L (i + 1)) := h.mono (Nat.le_succ i)
theorem joinW_lives {f : Lf → Lf → Lf} {L M : List Lf} (hL : Lives L) (hM : Lives M) (hf : ∀ a b c d, LeL a c → LeL b d → LeL (f a b) (f c d)) (hs : ∀ a b, f a b = a ∨ f a b = b) : Lives (joinW f L M) := by
  refine lives_of_fl (by rw [joinW_len]; have := hL.ne; omega) (fun i => ?_) fun i n e => ?_
  · rw [fl_joinW hL.ne, fl_joinW hL.ne]
    exact hf _ _ _ _ (hL.fl_up i) (hM.fl_up i)
  · rw [fl_joinW hL.ne] at e
    rcases hs (fl L i) (fl M i) with q | q
    · rw [q] at e; exact hL.fl_nn e
    · rw [q] at e; exact hM.fl_nn e
theorem minL_or (a b : Lf) : minL a b = a ∨ minL a b = b := by unfold minL; split <;> simp
theorem maxL_or (a b : Lf) : maxL a b = a ∨ maxL a b = b := by unfold maxL; split <;> simp
/-- the rules of the operators -/
def andR (L M : List Lf) : List Lf := short (joinW minL L M)
def orR (L M : List Lf) : List Lf := short (joinW maxL L M)
def addR (L : List Lf) (t : Int) : List Lf := short (L.map (addL t))
theorem at0_map {f : Lf → Lf} {L : List Lf} {i : Nat} (h : i < L.length) : at0 (L.map f) i = f (at0 L i) := by
  have := at0_eq h
  unfold at0 at this ⊢
  rw [List.getD_eq_getElem?_getD, List.getElem?_map, this]
  rfl
theorem fl_map {f : Lf → Lf} {L : List Lf} (h : 0 < L.length) (j : Nat) : fl (L.map f) j = f (fl L j) := by
  unfold fl
  rw [List.length_map, at0_map (by omega)]
theorem addR_lives {L : List Lf} {t : Int} (h : Lives L) (ht : 0 ≤ t) : Lives (L.map (addL t)) := by
  refine lives_of_fl (by rw [List.length_map]; exact h.ne) (fun i => ?_) fun i n e => ?_
  · rw [fl_map h.ne, fl_map h.ne]; exact addL_mono (h.fl_up i)
  · rw [fl_map h.ne] at e
    cases q : fl L i with
    | none => rw [q] at e; cases e
    | some m =>
      rw [q] at e
      cases e
      have := h.fl_nn q
      omega
theorem andR_rul {L M : List Lf} (hL : Rul L) (hM : Rul M) : Rul (andR L M) := by
  have h := joinW_lives hL.toLives hM.toLives (fun a b c d => minL_mono) minL_or
  refine ⟨h.short, short_tight _, Nat.le_trans (short_le _) ?_⟩
  rw [joinW_len]
  have := hL.most
  have := hM.most
  omega
theorem orR_rul {L M : List Lf} (hL : Rul L) (hM : Rul M) : Rul (orR L M) := by
  have h := joinW_lives hL.toLives hM.toLives (fun a b c d => maxL_mono) maxL_or
  refine ⟨h.short, short_tight _, Nat.le_trans (short_le _) ?_⟩
  rw [joinW_len]
  have := hL.most
  have := hM.most
  omega
theorem addR_rul {L : List Lf} {t : Int} (hL : Rul L) (ht : 0 ≤ t) : Rul (addR L t) :=
  ⟨(addR_lives hL.toLives ht).short, short_tight _, Nat.le_trans (short_le _) (by rw [List.length_map]; exact hL.most)⟩
theorem Rul.ext {L M : List Lf} (hL : Rul L) (hM : Rul M) (h : ∀ j, fl L j = fl M j) : L = M := tight_inj hL.ne hM.ne hL.tight hM.tight h
/-- no life of one is greater -/
def leR (L M : List Lf) : Bool := (List.range (max L.length M.length)).all fun i => decide (LeL (fl L i) (fl M i))
end LW
namespace LW
/-! Ck: kept points, restore points, distances: plain -/
theorem pw_pos (k : Nat) : (0 : Int) < 2 ^ k := Int.pow_pos (by decide)
theorem pw_succ (k : Nat) : (2 : Int) ^ (k + 1) = 2 * 2 ^ k := by rw [Int.pow_succ]; omega
theorem pw_dvd {a b : Nat} (h : a ≤ b) : (2 : Int) ^ a ∣ 2 ^ b := ⟨2 ^ (b - a), by rw [← Int.pow_add]; congr 1; omega⟩
theorem mod_down {a b : Nat} {p : Int} (h : a ≤ b) (k : p % 2 ^ b = 0) : p % 2 ^ a = 0 :=
  Int.emod_eq_zero_of_dvd (Int.dvd_trans (pw_dvd h) (Int.dvd_of_emod_eq_zero k))
/-- the greatest power of two up to an index that divides a point -/
def cap : Nat → Int → Nat
  | 0, _ => 0
  | m + 1, p => if p % 2 ^ (m + 1) = 0 then m + 1 else cap m p
theorem cap_le (m : Nat) (p : Int) : cap m p ≤ m := by
  induction m with
  | zero => exact Nat.le_refl _
  | succ m ih => unfold cap; split <;> omega
theorem cap_mod (m : Nat) (p : Int) : p % 2 ^ cap m p = 0 := by
  induction m with
  | zero => unfold cap; simp
  | succ m ih =>
    unfold cap
    split
    · assumption
    · exact ih
theorem cap_next {m : Nat} {p : Int} (h : cap m p < m) : p % 2 ^ (cap m p + 1) ≠ 0 := by
  induction m with
  | zero => omega
  | succ m ih =>
    unfold cap at h ⊢
    split at h
    · omega
    · rename_i q
      rw [if_neg q]
      by_cases w : cap m p < m
      · exact ih w
      · have := cap_le m p
        rw [show cap m p = m by omega]; exact q
theorem le_cap {m i : Nat} {p : Int} (h : i ≤ m) (k : p % 2 ^ i = 0) : i ≤ cap m p := by
  apply Nat.le_of_not_lt
  intro q
  exact cap_next (m := m) (p := p) (by omega) (mod_down (by omega) k)
theorem cap_eq {m i : Nat} {p : Int} (h : i ≤ m) (k : p % 2 ^ i = 0) (n : i = m ∨ p % 2 ^ (i + 1) ≠ 0) : cap m p = i := by
  have h1 := le_cap h k
  have h2 := cap_le m p
  rcases n with n | n
  · omega
  · apply Nat.le_antisymm _ h1
    apply Nat.le_of_not_lt
    intro q
    exact n (mod_down (by omega) (cap_mod m p))
theorem cap_min {m n : Nat} (p : Int) (h : n ≤ m) : cap n p = min n (cap m p) := by
  by_cases q : cap m p < n
  · rw [Nat.min_eq_right (by omega)]
    exact cap_eq (by omega) (cap_mod m p) (.inr (cap_next (by omega)))
  · rw [Nat.min_eq_left (by omega)]
    exact cap_eq (Nat.le_refl _) (mod_down (by omega) (cap_mod m p)) (.inl rfl)
theorem cap_zero (m : Nat) : cap m 0 = m := cap_eq (Nat.le_refl _) (by simp) (.inl rfl)
/-- the life of a point -/
def lfp (L : List Lf) (p : Int) : Lf := at0 L (cap (L.length - 1) p)
theorem lfp_fl {L : List Lf} {m : Nat} (p : Int) (h : L.length - 1 ≤ m) : lfp L p = fl L (cap m p) := by
  unfold lfp fl
  rw [cap_min p h, Nat.min_comm]
theorem lfp_short {L : List Lf} (h : 0 < L.length) (p : Int) : lfp (short L) p = lfp L p := by
  have := short_le L
  rw [lfp_fl (m := L.length - 1) p (by omega), lfp_fl (m := L.length - 1) p (by omega), fl_short h]
/-- a point is kept at a tick -/
def Kp (L : List Lf) (t p : Int) : Prop := 0 ≤ p ∧ p ≤ t ∧ LeL (some (t - p + 1)) (lfp L p)
instance Kp.dec (L : List Lf) (t p : Int) : Decidable (Kp L t p) := inferInstanceAs (Decidable (_ ∧ _ ∧ _))
theorem Kp_short {L : List Lf} (h : 0 < L.length) {t p : Int} : Kp (short L) t p ↔ Kp L t p := by unfold Kp; rw [lfp_short h]
def youngI (t : Int) (i : Nat) : Option Int := if 2 ^ i ≤ t then some (t - (t - 2 ^ i) % (2 * 2 ^ i)) else none
/-- the youngest point up to a tick for which the life with an index holds -/
def ybI (n : Nat) (t : Int) (i : Nat) : Option Int := if i + 1 = n then some (t - t % 2 ^ i) else youngI t i
def oldI (L : List Lf) (t : Int) (i : Nat) : Int := match at0 L i with
  | none => 0
  | some x => max 0 (t - x + 1)
theorem oldI_le {L : List Lf} {t p : Int} {i : Nat} (h : 0 ≤ p) : oldI L t i ≤ p ↔ LeL (some (t - p + 1)) (at0 L i) := by
  unfold oldI
  cases at0 L i with
  | none => exact ⟨fun _ => LeL.top _, fun _ => h⟩
  | some x => simp only [LeL]; omega
theorem odd_mod {p s : Int} (hs : 0 < s) : (p % s = 0 ∧ p % (2 * s) ≠ 0) ↔ p % (2 * s) = s := by
  have h1 := Int.emod_add_mul_ediv p (2 * s)
  have h2 := Int.emod_nonneg p (show 2 * s ≠ 0 by omega)
  have h3 := Int.emod_lt_of_pos p (show 0 < 2 * s by omega)
  have h4 : p % (2 * s) % s = p % s := Int.emod_emod_of_dvd p ⟨2, by rw [Int.mul_comm]⟩
  constructor
  · rintro ⟨a, b⟩
    rw [a] at h4
    obtain ⟨k, hk⟩ := Int.dvd_of_emod_eq_zero h4
    rw [hk] at h2 h3 b ⊢
    have : 0 < k := by
      apply Int.lt_of_not_ge
      intro q
      have : s * k ≤ 0 := Int.mul_nonpos_of_nonneg_of_nonpos (by omega) q
      omega
    have : k < 2 := by
      apply Int.lt_of_not_ge
      intro q
      have : s * 2 ≤ s * k := Int.mul_le_mul_of_nonneg_left q (by omega)
      omega
    have : k = 1 := by omega
    subst this
    omega
  · intro a
    rw [a] at h4
    rw [Int.emod_self] at h4
    exact ⟨h4.symm, by omega⟩
theorem cap_rank {n i : Nat} {p : Int} (hi : i + 1 < n) : cap (n - 1) p = i ↔ p % (2 * 2 ^ i) = 2 ^ i := by
  rw [← odd_mod (pw_pos i), ← pw_succ]
  constructor
  · intro h
    subst h
    exact ⟨cap_mod _ _, cap_next (by omega)⟩
  · rintro ⟨a, b⟩
    exact cap_eq (by omega) a (.inr b)
theorem cap_last {n : Nat} {p : Int} : cap (n - 1) p = n - 1 ↔ p % 2 ^ (n - 1) = 0 :=
  ⟨fun h => by have := cap_mod (n - 1) p; rwa [h] at this, fun h => cap_eq (Nat.le_refl _) h (.inl rfl)⟩
theorem mod_gap {p q s m : Int} (hs : 0 < s) (h1 : p % s = m) (h2 : q % s = m) (h : p < q) : p + s ≤ q := by
  have a := Int.emod_add_mul_ediv p s
  have b := Int.emod_add_mul_ediv q s
  have c : p / s < q / s := by
    apply Int.lt_of_not_ge
    intro z
    have := Int.mul_le_mul_of_nonneg_left z (show 0 ≤ s by omega)
    omega
  have : s * (p / s + 1) ≤ s * (q / s) := Int.mul_le_mul_of_nonneg_left (by omega) (by omega)
  rw [Int.mul_add, Int.mul_one] at this
  omega
/-- the points that a restore may use, by index -/
def fitI (L : List Lf) (t a : Int) : List Int := (List.range L.length).filterMap fun i => match ybI L.length (t - a) i with
  | some p => if oldI L t i ≤ p then some p else none
  | none => none
def maxO : List Int → Option Int
  | [] => none
  | n :: ns => some (ns.foldl max n)
def resI (L : List Lf) (t a : Int) : Option Int := maxO (fitI L t a)
/-- o is the greatest kept point of at least an age -/
def ResP (L : List Lf) (t a : Int) : Option Int → Prop
  | none => ∀ q, Kp L t q → t - a < q
  | some p => Kp L t p ∧ p ≤ t - a ∧ ∀ q, Kp L t q → q ≤ t - a → q ≤ p
theorem ResP.uniq {L : List Lf} {t a : Int} {o o' : Option Int} (h : ResP L t a o) (k : ResP L t a o') : o = o' := by
  cases o with
  | none =>
    cases o' with
    | none => rfl
    | some p => have := h _ k.1; have := k.2.1; omega
  | some q =>
    cases o' with
    | none => have := k _ h.1; have := h.2.1; omega
    | some p =>
      congr 1
      exact Int.le_antisymm (k.2.2 _ h.1 h.2.1) (h.2.2 _ k.1 k.2.1)
/-- the distance -/
def gapI (L : List Lf) (t a : Int) : Option Int := (resI L t a).map fun p => t - p - a
/-! guarantee (a) -/
section
variable {L : List Lf} {t a : Int} {j : Nat}
end
/-! behind the greatest life the distances come again -/
end LW
namespace LW
/-! Cc: counts of kept points: plain -/
def one (b : Bool) : Int := if b = true then 1 else 0
theorem one_nn (b : Bool) : 0 ≤ one b := by cases b <;> decide
theorem up_ind {lo : Int} {M : Int → Prop} (h0 : M (lo - 1)) (hs : ∀ hi, lo ≤ hi → M (hi - 1) → M hi) (hi : Int) (h : lo - 1 ≤ hi) : M hi := by
  have key : ∀ k : Nat, M (lo - 1 + k) := fun k => by
    induction k with
    | zero => simpa using h0
    | succ k ih => exact hs _ (by omega) (by rw [show lo - 1 + ((k + 1 : Nat) : Int) - 1 = lo - 1 + k by omega]; exact ih)
  have := key (hi - (lo - 1)).toNat
  rwa [show lo - 1 + ((hi - (lo - 1)).toNat : Int) = hi by omega] at this
/-- how many numbers of a range are so -/
def cnt (P : Int → Bool) (lo hi : Int) : Int := sumTo (fun i => one (P (lo + i))) (hi - lo + 1).toNat
section
variable {P Q : Int → Bool} {lo hi : Int}
theorem cnt_empty (h : hi < lo) : cnt P lo hi = 0 := by
  unfold cnt
  rw [show (hi - lo + 1).toNat = 0 by omega]
  rfl
theorem cnt_step (h : lo ≤ hi) : cnt P lo hi = cnt P lo (hi - 1) + one (P hi) := by
  unfold cnt
  rw [show (hi - lo + 1).toNat = (hi - 1 - lo + 1).toNat + 1 by omega, sumTo, show lo + ((hi - 1 - lo + 1).toNat : Int) = hi by omega]
theorem cnt_congr (h : ∀ p, lo ≤ p → p ≤ hi → P p = Q p) : cnt P lo hi = cnt Q lo hi := by
  unfold cnt
  exact sumTo_congr fun i hi => by rw [h _ (by omega) (by omega)]
theorem cnt_nn : 0 ≤ cnt P lo hi := by
  unfold cnt
  generalize (hi - lo + 1).toNat = n
  induction n with
  | zero => exact Int.le_refl _
  | succ n ih => rw [sumTo]; have := one_nn (P (lo + n)); omega
theorem sumTo_cnt {R : Nat → Int → Bool} {n : Nat} (h : ∀ p, lo ≤ p → p ≤ hi → one (P p) = sumTo (fun i => one (R i p)) n) : cnt P lo hi = sumTo (fun i => cnt (R i) lo hi) n := by
  by_cases q : lo - 1 ≤ hi
  · refine up_ind (lo := lo) (M := fun h' => h' ≤ hi → cnt P lo h' = sumTo (fun i => cnt (R i) lo h') n) (fun _ => ?_) (fun h' hl ih hh => ?_) hi q (Int.le_refl _)
    · rw [cnt_empty (by omega)]
      rw [sumTo_congr (h := fun _ => 0) fun i _ => cnt_empty (by omega)]
      clear h
      induction n with
      | zero => rfl
      | succ n ih => rw [sumTo, ← ih]; rfl
    · rw [cnt_step hl, ih (by omega), h h' hl hh, ← sumTo_add]
      exact sumTo_congr fun i _ => (cnt_step hl).symm
  · rw [cnt_empty (by omega), sumTo_congr (h := fun _ => 0) fun i _ => cnt_empty (by omega)]
    clear h
    induction n with
    | zero => rfl
    | succ n ih => rw [sumTo, ← ih]; rfl
theorem cnt_within {a b : Int} : cnt (fun p => P p && decide (a ≤ p ∧ p ≤ b)) lo hi = cnt P (max lo a) (min hi b) := by
  by_cases q : lo - 1 ≤ hi
  · refine up_ind (lo := lo) (M := fun hi => cnt (fun p => P p && decide (a ≤ p ∧ p ≤ b)) lo hi = cnt P (max lo a) (min hi b)) ?_ (fun hi h ih => ?_) hi q
    · show cnt _ lo (lo - 1) = cnt P (max lo a) (min (lo - 1) b)
      rw [cnt_empty (by omega), cnt_empty (by omega)]
    · show cnt _ lo hi = cnt P (max lo a) (min hi b)
      have ih : cnt (fun p => P p && decide (a ≤ p ∧ p ≤ b)) lo (hi - 1) = cnt P (max lo a) (min (hi - 1) b) := ih
      rw [cnt_step h, ih]
      by_cases q1 : hi ≤ b
      · rw [show min (hi - 1) b = hi - 1 by omega, show min hi b = hi by omega]
        by_cases q2 : a ≤ hi
        · rw [cnt_step (lo := max lo a) (hi := hi) (by omega), decide_eq_true ⟨q2, q1⟩, Bool.and_true]
        · rw [cnt_empty (hi := hi - 1) (by omega), cnt_empty (hi := hi) (by omega), decide_eq_false fun z => q2 z.1, Bool.and_false]; rfl
      · rw [show min (hi - 1) b = b by omega, show min hi b = b by omega, decide_eq_false fun z => q1 z.2, Bool.and_false]
        exact Int.add_zero _
  · rw [cnt_empty (by omega), cnt_empty (by omega)]
/-- a count by a formula -/
theorem cnt_form {F : Int → Int} (hF : ∀ x, lo ≤ x → F x = F (x - 1) + one (P x)) (h : lo - 1 ≤ hi) : cnt P lo hi = F hi - F (lo - 1) := by
  refine up_ind (lo := lo) (M := fun hi => cnt P lo hi = F hi - F (lo - 1)) ?_ (fun hi h ih => ?_) hi h
  · show cnt P lo (lo - 1) = F (lo - 1) - F (lo - 1)
    rw [cnt_empty (by omega)]
    omega
  · show cnt P lo hi = F hi - F (lo - 1)
    have ih : cnt P lo (hi - 1) = F (hi - 1) - F (lo - 1) := ih
    rw [cnt_step h, ih, hF hi h]
    omega
end
theorem div_step {s x : Int} (hs : 0 < s) : x / s = (x - 1) / s + one (decide (x % s = 0)) := by
  have h1 := Int.emod_add_mul_ediv x s
  have h2 := Int.emod_nonneg x (show s ≠ 0 by omega)
  have h3 := Int.emod_lt_of_pos x hs
  by_cases q : x % s = 0
  · rw [decide_eq_true q]
    show x / s = (x - 1) / s + 1
    have e : (x - 1) / s = x / s - 1 := by
      have w : x - 1 = (s - 1) + s * (x / s - 1) := by rw [Int.mul_sub, Int.mul_one]; omega
      have w2 : ((s - 1) + s * (x / s - 1)) / s = x / s - 1 := by
        rw [Int.add_mul_ediv_left (s - 1) (x / s - 1) (show s ≠ 0 by omega), Int.ediv_eq_zero_of_lt (show 0 ≤ s - 1 by omega) (show s - 1 < s by omega)]
        omega
      rw [w2.symm, ← w]
    omega
  · rw [decide_eq_false q]
    show x / s = (x - 1) / s + 0
    have e : (x - 1) / s = x / s := by
      have w : x - 1 = (x % s - 1) + s * (x / s) := by omega
      have w2 : ((x % s - 1) + s * (x / s)) / s = x / s := by
        rw [Int.add_mul_ediv_left (x % s - 1) (x / s) (show s ≠ 0 by omega), Int.ediv_eq_zero_of_lt (show 0 ≤ x % s - 1 by omega) (show x % s - 1 < s by omega)]
        omega
      rw [w2.symm, ← w]
    omega
theorem div_mono {a b s : Int} (hs : 0 < s) (h : a ≤ b) : a / s ≤ b / s := Int.ediv_le_ediv hs h
/-- multiples of a size -/
def mulP (s : Int) (p : Int) : Bool := decide (p % s = 0)
/-- points of just a rank -/
def rnkP (i : Nat) (p : Int) : Bool := decide (p % (2 * 2 ^ i) = 2 ^ i)
theorem cnt_mul {s lo hi : Int} (hs : 0 < s) : cnt (mulP s) lo hi = max 0 (hi / s - (lo - 1) / s) := by
  by_cases h : lo - 1 ≤ hi
  · have e := cnt_form (F := fun x => x / s) (P := mulP s) (lo := lo) (fun x _ => div_step hs) h
    have := cnt_nn (P := mulP s) (lo := lo) (hi := hi)
    have e : cnt (mulP s) lo hi = hi / s - (lo - 1) / s := e
    omega
  · rw [cnt_empty (by omega)]
    have := div_mono hs (show hi ≤ lo - 1 by omega)
    omega
def upI (x : Int) (i : Nat) : Int := if 0 < x then (x + 2 ^ i) / (2 * 2 ^ i) else 0
theorem rnk_step {i : Nat} {x : Int} (h : 0 ≤ x) : upI x i = upI (x - 1) i + one (rnkP i x) := by
  have hp := pw_pos i
  have h1 := Int.emod_add_mul_ediv x (2 * 2 ^ i)
  have h2 := Int.emod_nonneg x (show (2 * 2 ^ i : Int) ≠ 0 by omega)
  have h3 := Int.emod_lt_of_pos x (show (0 : Int) < 2 * 2 ^ i by omega)
  have key : (x + 2 ^ i) / (2 * 2 ^ i) = (x - 1 + 2 ^ i) / (2 * 2 ^ i) + one (rnkP i x) := by
    have e := div_step (s := 2 * 2 ^ i) (x := x + 2 ^ i) (by omega)
    rw [show x + 2 ^ i - 1 = x - 1 + 2 ^ i by omega] at e
    rw [e]
    congr 2
    unfold rnkP
    refine decide_eq_decide.mpr ⟨fun z => ?_, fun z => ?_⟩
    · have w : x = -(2 ^ i) + (x + 2 ^ i) := by omega
      rw [w, Int.add_emod, z, Int.add_zero, Int.emod_emod, show -(2 ^ i : Int) = 2 ^ i + (2 * 2 ^ i) * (-1) by omega, Int.add_mul_emod_self_left]
      exact Int.emod_eq_of_lt (by omega) (by omega)
    · rw [Int.add_emod, z, Int.emod_eq_of_lt (a := 2 ^ i) (by omega) (by omega), show (2 ^ i + 2 ^ i : Int) = 2 * 2 ^ i by omega, Int.emod_self]
  unfold upI
  by_cases q : 0 < x
  · rw [if_pos q]
    by_cases w : 0 < x - 1
    · rw [if_pos w]; exact key
    · rw [if_neg w]
      have : x = 1 := by omega
      subst this
      rw [key, show (1 : Int) - 1 + 2 ^ i = 2 ^ i by omega, Int.ediv_eq_zero_of_lt (by omega) (by omega)]
  · rw [if_neg q, if_neg (by omega)]
    have : x = 0 := by omega
    subst this
    unfold rnkP
    rw [decide_eq_false (by rw [Int.zero_emod]; omega)]
    rfl
theorem cnt_rnk {i : Nat} {lo hi : Int} (h0 : 0 ≤ lo) : cnt (rnkP i) lo hi = max 0 (upI hi i - upI (lo - 1) i) := by
  have hp := pw_pos i
  by_cases h : lo - 1 ≤ hi
  · have e := cnt_form (F := fun x => upI x i) (P := rnkP i) (lo := lo) (fun x hx => rnk_step (by omega)) h
    have := cnt_nn (P := rnkP i) (lo := lo) (hi := hi)
    have e : cnt (rnkP i) lo hi = upI hi i - upI (lo - 1) i := e
    omega
  · rw [cnt_empty (by omega)]
    have : upI hi i ≤ upI (lo - 1) i := by
      unfold upI
      have h1 : 0 < lo - 1 → 0 ≤ (lo - 1 + 2 ^ i) / (2 * 2 ^ i) := fun z => Int.ediv_nonneg (by omega) (by omega)
      by_cases q : 0 < hi
      · rw [if_pos q, if_pos (by omega)]
        exact div_mono (by omega) (by omega)
      · rw [if_neg q]
        split
        · exact h1 (by assumption)
        · exact Int.le_refl _
    omega
/-- how many kept points a range has -/
def cntK (L : List Lf) (t lo hi : Int) : Int := cnt (fun p => decide (Kp L t p)) lo hi
theorem cntK_short {L : List Lf} (h : 0 < L.length) {t lo hi : Int} : cntK (short L) t lo hi = cntK L t lo hi := cnt_congr fun p _ _ => decide_eq_decide.mpr (Kp_short h)
def clsP (n i : Nat) (p : Int) : Bool := if i + 1 = n then mulP (2 ^ i) p else rnkP i p
theorem clsP_iff {n i : Nat} {p : Int} (hi : i < n) : clsP n i p = true ↔ cap (n - 1) p = i := by
  unfold clsP
  split
  · rename_i q
    have : i = n - 1 := by omega
    subst this
    rw [cap_last]
    unfold mulP
    exact decide_eq_true_iff
  · rw [cap_rank (by omega)]
    unfold rnkP
    exact decide_eq_true_iff
theorem sumTo_one {f : Nat → Int} {n k : Nat} (hk : k < n) (h : ∀ i, i < n → i ≠ k → f i = 0) : sumTo f n = f k := by
  induction n with
  | zero => omega
  | succ n ih =>
    rw [sumTo]
    by_cases q : k = n
    · subst q
      have : ∀ m, m ≤ k → sumTo f m = 0 := fun m hm => by
        induction m with
        | zero => rfl
        | succ m ih2 => rw [sumTo, ih2 (by omega), h m (by omega) (by omega)]; rfl
      rw [this k (Nat.le_refl _)]
      omega
    · rw [ih (by omega) fun i hi => h i (by omega), h n (by omega) (fun z => q z.symm)]
      omega
/-- by the indices -/
theorem cntK_sum {L : List Lf} (hL : 0 < L.length) {t lo hi : Int} (h0 : 0 ≤ lo) : cntK L t lo hi = sumTo (fun i => cnt (clsP L.length i) (max lo (oldI L t i)) (min hi t)) L.length := by
  unfold cntK
  rw [sumTo_cnt (R := fun i p => clsP L.length i p && decide (oldI L t i ≤ p ∧ p ≤ t)) (n := L.length) fun p hp _ => ?_]
  · exact sumTo_congr fun i _ => cnt_within
  · have hc := cap_le (L.length - 1) p
    rw [sumTo_one (k := cap (L.length - 1) p) (by omega) fun i hn hi => ?_]
    · rw [(clsP_iff (by omega)).mpr rfl, Bool.true_and]
      congr 1
      refine decide_eq_decide.mpr ?_
      rw [oldI_le (by omega)]
      exact ⟨fun h => ⟨h.2.2, h.2.1⟩, fun h => ⟨by omega, h.2, h.1⟩⟩
    · rw [show clsP L.length i p = false by
        rw [Bool.eq_false_iff]
        intro z
        exact hi ((clsP_iff hn).mp z).symm, Bool.false_and]
      rfl
theorem cnt_le {P : Int → Bool} {lo hi : Int} : cnt P lo hi ≤ max 0 (hi - lo + 1) := by
  unfold cnt
  have : ∀ n : Nat, sumTo (fun i => one (P (lo + i))) n ≤ n := fun n => by
    induction n with
    | zero => exact Int.le_refl _
    | succ n ih =>
      rw [sumTo]
      have : one (P (lo + (n : Nat))) ≤ 1 := by cases P (lo + (n : Nat)) <;> decide
      omega
  have := this (hi - lo + 1).toNat
  omega
theorem cntK_bd {L : List Lf} {t lo hi : Int} : 0 ≤ cntK L t lo hi ∧ cntK L t lo hi ≤ max 0 (hi - lo + 1) := ⟨cnt_nn, cnt_le⟩
end LW
namespace LW
/-! Cw: when a change is over -/
def setN (L M : List Lf) : Nat → Lf
  | 0 => some 0
  | n + 1 => match setN L M n with
    | none => none
    | some f => match fl L n with
      | none => some f
      | some a => match fl M n with
        | none => none
        | some b => some (max f (b - a))
/-- the number of ticks behind which the new rule alone decides -/
def setR (L M : List Lf) : Lf := setN L M (max L.length M.length)
end LW
namespace LW
open PySem L2 Ev
local macro_rules | `(tactic| walk_at "lvs") => `(tactic| fail)
local macro_rules | `(tactic| walk_at "call") => `(tactic| fail)
local macro_rules | `(tactic| walk_at "ex") => `(tactic| fail)
local macro_rules | `(tactic| walk_at "rul") => `(tactic| fail)
local macro_rules | `(tactic| walk_at "rp") => `(tactic| fail)
local macro_rules | `(tactic| walk_at "ints") => `(tactic| fail)
local macro_rules | `(tactic| walk_at "side") => `(tactic| fail)
local macro_rules | `(tactic| walk_at "om") => `(tactic| first | omega | ((try simp only [List.length_cons, List.length_nil, List.length_map, List.length_append, List.length_replicate, List.length_take, List.length_drop, List.length_zip, List.length_range, Ev.rngL_length, Int.toNat_natCast]); omega))
local macro_rules | `(tactic| walk_at "wq") => `(tactic| (walk_at "wp") <;> (try first | with_unfolding_all rfl | (exfalso; omega)))
local macro_rules | `(tactic| walk_at "dec") => `(tactic| (apply congrArg; first | exact (decide_eq_true (by omega)).symm | exact (decide_eq_false (by omega)).symm))
local macro_rules | `(tactic| walk_at "w1") => `(tactic| (first
  | (with_reducible refine Ev.isWRD ?_; (first
    | with_reducible refine Ev.wp_var (by with_unfolding_all rfl) ?_
    | with_reducible refine Ev.wp_con ?_
    | (with_reducible refine Ev.isOp ?_; (first
        | with_reducible refine Ev.wp_add ?_
        | with_reducible refine Ev.wp_sub ?_
        | with_reducible refine Ev.wp_mul2 ?_
        | with_reducible refine Ev.wp_mod ?_
        | with_reducible refine Ev.wp_fdiv ?_
        | with_reducible refine Ev.wp_pow ?_
        | with_reducible refine Ev.wp_shl ?_
        | with_reducible refine Ev.wp_shr ?_
        | with_reducible refine Ev.wp_and_ ?_
        | with_reducible refine Ev.wp_ltV ?_
        | with_reducible refine Ev.wp_leV ?_
        | with_reducible refine Ev.wp_gtV ?_
        | with_reducible refine Ev.wp_geV ?_
        | with_reducible refine Ev.wp_eqV ?_
        | with_reducible refine Ev.wp_neV ?_
        | with_reducible refine Ev.wp_isNV ?_
        | with_reducible refine Ev.wp_notNV ?_
        | with_reducible refine Ev.wp_op ?_))
    | with_reducible refine Ev.wp_call ?_
    | with_reducible refine Ev.wp_tup ?_
    | with_reducible refine Ev.wp_seeV (by with_unfolding_all rfl) ?_
    | with_reducible refine Ev.wp_seeO (by with_unfolding_all rfl) ?_
    | (with_reducible refine Ev.isUn ?_; (first
        | with_reducible refine Ev.wp_cob ?_
        | with_reducible refine Ev.wp_neg ?_
        | with_reducible refine Ev.wp_bits ?_
        | with_reducible refine Ev.wp_isi ?_
        | with_reducible refine Ev.wp_fld ?_
        | with_reducible refine Ev.wp_isiRu ?_))
    | with_reducible refine Ev.wp_new ?_
    | with_reducible refine Ev.wp_sameM ?_
    | with_reducible refine Ev.wp_mth ?_
    | with_reducible refine Ev.wp_prp ?_
    | with_reducible refine Ev.wp_mkC ?_
    | with_reducible refine Ev.wp_mkK ?_
    | with_reducible refine Ev.wp_dnew ?_
    | with_reducible refine Ev.wp_done ?_
    | with_reducible refine Ev.wp_callD ?_
    | with_reducible refine Ev.wp_ifV ?_
    | with_reducible refine Ev.wp_andV ?_
    | with_reducible refine Ev.wp_orV ?_
    | with_reducible refine Ev.wp_notV ?_
    | with_reducible refine Ev.wp_val ?_
    | with_reducible refine Ev.wp_sl ?_
    | with_reducible refine Ev.wp_sm ?_
    | with_reducible refine Ev.wp_cm ?_
    | with_reducible refine Ev.wp_mk ?_
    | with_reducible refine Ev.wp_mkStar ?_
    | with_reducible refine Ev.wp_two ?_
    | with_reducible refine Ev.wp_ruLen ?_
    | with_reducible refine Ev.wp_ruCall ?_
    | with_reducible refine Ev.wp_idx ?_
    | with_reducible refine Ev.wp_kRuI (by first | assumption | decide | omega) ?_
    | with_reducible refine Ev.wp_kRu (by first | assumption | decide | omega) (by first | assumption | decide | omega) ?_
    | with_reducible refine Ev.wp_kRuX (by first | assumption | decide | omega) ?_
    | with_reducible refine Ev.wp_star1 (by walk_at "om") ?_
    | with_reducible refine Ev.wp_chLL ?_
    | with_reducible refine Ev.wp_ch ?_
    | walk_at "call"
    | with_reducible refine Ev.wp_blt ?_))
  | (with_reducible refine Ev.isWS ?_; (first
    | with_reducible refine Ev.wp_seq ?_
    | with_reducible refine Ev.wp_ret ?_
    | with_reducible refine Ev.wp_retN ?_
    | with_reducible refine Ev.wp_retCell ?_
    | with_reducible refine Ev.wp_ifS ?_
    | with_reducible refine Ev.wp_expr ?_
    | with_reducible refine Ev.wp_skip ?_
    | with_reducible refine Ev.wp_break ?_
    | with_reducible refine Ev.wp_cont ?_
    | with_reducible refine Ev.wp_own ?_
    | with_reducible refine Ev.wp_par ?_
    | with_reducible refine Ev.wp_par3 ?_
    | with_reducible refine Ev.wp_par3F ?_
    | with_reducible refine Ev.wp_parF ?_
    | with_reducible refine Ev.wp_parG ?_
    | with_reducible refine Ev.wp_forS ?_
    | with_reducible refine Ev.wp_parFF ?_
    | with_reducible refine Ev.wp_asgTF ?_
    | with_reducible refine Ev.wp_augI (by with_unfolding_all rfl) ?_
    | with_reducible refine Ev.wp_appC ?_
    | with_reducible refine Ev.wp_sameS ?_
    | with_reducible refine Ev.wp_setOb (by with_unfolding_all rfl) ?_
    | with_reducible refine Ev.wp_dput ?_
    | with_reducible refine Ev.wp_lckS (by with_unfolding_all rfl) ?_
    | with_reducible refine Ev.wp_asgN (by with_unfolding_all rfl) ?_
    | with_reducible refine Ev.wp_asg ?_
    | with_reducible refine Ev.wp_retOwn (by with_unfolding_all rfl) ?_
    | with_reducible refine Ev.wp_retOwnV (by with_unfolding_all rfl) ?_
    | with_reducible refine Ev.wp_frz (by with_unfolding_all rfl) ?_
    | with_reducible refine Ev.wp_frzV (by with_unfolding_all rfl) ?_
    | with_reducible refine Ev.wp_popT (by with_unfolding_all rfl) (by with_unfolding_all rfl) (by with_unfolding_all rfl) ?_
    | with_reducible refine Ev.wp_append (by with_unfolding_all rfl) ?_
    | with_reducible refine Ev.wp_aug (by with_unfolding_all rfl) ?_
    | with_reducible refine Ev.wp_setC (by with_unfolding_all rfl) ?_
    | with_reducible refine Ev.wp_setO (by with_unfolding_all rfl) ?_))
  | (with_reducible refine Ev.isWRL ?_; (first
    | with_reducible refine Ev.wp_genM ?_
    | with_reducible refine Ev.wp_addF ?_
    | with_reducible refine Ev.wp_lstC ?_
    | with_reducible refine Ev.wp_star ?_
    | with_reducible refine Ev.wp_genI ?_
    | with_reducible refine Ev.wp_lck (by with_unfolding_all rfl) ?_
    | with_reducible refine Ev.wp_items (by with_unfolding_all rfl) ?_
    | with_reducible refine Ev.wp_nil ?_
    | with_reducible refine Ev.wp_cons ?_
    | with_reducible refine Ev.wp_fit ?_
    | with_reducible refine Ev.wp_lc ?_
    | with_reducible refine Ev.wp_rng1 ?_
    | with_reducible refine Ev.wp_rng2 ?_
    | with_reducible refine Ev.wp_seqIt ?_
    | with_reducible refine Ev.wp_zipIt ?_
    | with_reducible refine Ev.wp_enum ?_
    | with_reducible refine Ev.wp_rng3 ?_
    | with_reducible refine Ev.wp_srt ?_
    | with_reducible refine Ev.wp_lrg ?_
    | walk_at "call"))
  | (with_reducible refine Ev.isWRB ?_; (first
    | (with_reducible refine Ev.isBop ?_; (first
        | with_reducible refine Ev.wp_lt ?_
        | with_reducible refine Ev.wp_le ?_
        | with_reducible refine Ev.wp_gt ?_
        | with_reducible refine Ev.wp_ge ?_
        | with_reducible refine Ev.wp_isN ?_
        | with_reducible refine Ev.wp_notN ?_
        | with_reducible refine Ev.wp_eq ?_
        | with_reducible refine Ev.wp_ne ?_))
    | (with_reducible refine Ev.isBun ?_; with_reducible refine Ev.wp_isiB ?_)
    | with_reducible refine Ev.wp_sameB ?_
    | with_reducible refine Ev.wp_andB ?_
    | with_reducible refine Ev.wp_orB ?_
    | with_reducible refine Ev.wp_notB ?_
    | with_reducible refine Ev.wp_yes ?_
    | walk_at "call"
    | with_reducible refine Ev.wp_bool ?_))
  | (with_reducible refine Ev.isWRO ?_; (first
    | with_reducible refine Ev.wp_noP ?_
    | with_reducible refine Ev.wp_atP ?_))
  | (with_reducible refine Ev.isBr ?_; (first
    | walk_at "ex"
    | with_reducible refine Ev.Br.yes (by first | assumption | (with_reducible exact Eq.refl _) | (with_unfolding_all (intro h; cases h; done)) | omega) ?_
    | with_reducible refine Ev.Br.no (by first | assumption | (with_unfolding_all (intro h; cases h; done)) | (with_unfolding_all (intro h; exact h rfl)) | omega) ?_
    | with_reducible refine Ev.Br.mk (fun _ => ?_) (fun _ => ?_)))
  | (with_reducible refine Ev.isEx ?_; (first
    | walk_at "ex"
    | with_reducible refine Exists.intro _ (Exists.intro _ (And.intro rfl (And.intro (by assumption : (_ : Option Ev.Cell) = some (Ev.Cell.lst _)) ?_)))
    | with_reducible refine Exists.intro _ (And.intro (by assumption : (_ : Option Ev.Cell) = some (Ev.Cell.lst _)) ?_)
    | with_reducible refine Exists.intro _ (Exists.intro _ (And.intro rfl (And.intro (by assumption : (_ : Option Ev.Cell) = some (Ev.Cell.ob _ _)) ?_)))
    | with_reducible refine Exists.intro _ (by assumption : (_ : Option Ev.Cell) = some (Ev.Cell.ob _ _))
    | with_reducible refine Exists.intro _ (And.intro (Ev.isiRu_ob (by first | assumption | decide | omega)) ?_)
    | with_reducible refine Exists.intro _ (And.intro (Ev.all_rep _ _) ?_)
    | with_reducible refine Exists.intro _ (Exists.intro _ (And.intro (by with_unfolding_all rfl) (And.intro (by with_reducible first | exact Ev.kit_NoneType_int | exact Ev.kit_NoneType_bool | exact Ev.kit_NoneType_tuple | exact Ev.kit_NoneType_str | exact Ev.kit_NoneType_list | exact Ev.kit_bool_int | exact Ev.kit_bool_bool | exact Ev.kit_bool_tuple | exact Ev.kit_bool_str | exact Ev.kit_bool_list | exact Ev.kit_int_int | exact Ev.kit_int_bool | exact Ev.kit_int_tuple | exact Ev.kit_int_str | exact Ev.kit_int_list | exact Ev.kit_str_int | exact Ev.kit_str_bool | exact Ev.kit_str_tuple | exact Ev.kit_str_str | exact Ev.kit_str_list | exact Ev.kit_tuple_int | exact Ev.kit_tuple_bool | exact Ev.kit_tuple_tuple | exact Ev.kit_tuple_str | exact Ev.kit_tuple_list | exact Ev.kit_list_int | exact Ev.kit_list_bool | exact Ev.kit_list_tuple | exact Ev.kit_list_str | exact Ev.kit_list_list) ?_)))
    | with_reducible refine Exists.intro _ (Exists.intro _ (And.intro rfl (And.intro rfl ?_)))
    | with_reducible refine Exists.intro _ (And.intro rfl ?_)
    | with_reducible refine Exists.intro _ (And.intro (Ev.ixG (by first | assumption | exact Ev.cset_get (by assumption) | exact Ev.cset_get (Ev.cset_get (by assumption))) (by with_unfolding_all rfl)) ?_)
    | with_reducible refine Exists.intro _ (Exists.intro _ (Exists.intro _ (And.intro rfl (And.intro (by first | assumption | exact Ev.cset_get (by assumption) | exact Ev.cset_get (Ev.cset_get (by assumption))) (And.intro (by with_unfolding_all rfl) ?_)))))
    | with_reducible refine Exists.intro _ (And.intro (by with_unfolding_all rfl) ?_)))
  | (with_reducible refine Ev.isAnd ?_; (first
    | with_reducible refine And.intro (Ev.isRu_ob (by first | assumption | decide | omega)) ?_
    | with_reducible refine And.intro (by walk_at "om") ?_
    | with_reducible refine And.intro rfl ?_
    | walk_at "ex"))
  | (with_reducible refine Ev.isIte ?_; (first
    | with_reducible refine Ev.ite_t ?_
    | with_reducible refine Ev.ite_f ?_
    | with_reducible refine Ev.ite_nt ?_
    | with_reducible refine Ev.ite_nf ?_
    | with_reducible refine Ev.ite_yes (by first | assumption | omega) ?_
    | with_reducible refine Ev.ite_no (by first | assumption | omega) ?_
    | with_reducible refine Ev.ite_nyes (by first | assumption | omega) ?_
    | with_reducible refine Ev.ite_nno (by first | assumption | omega) ?_
    | with_reducible refine Ev.ite_dec (fun _ => ?_) (fun _ => ?_)
    | with_reducible refine Ev.ite_ndec (fun _ => ?_) (fun _ => ?_)))
  | (with_reducible refine Ev.isEq2 ?_; (first
    | with_reducible refine Ev.eq2_int ?_
    | with_reducible refine Ev.eq2_str ?_
    | walk_at "ex"))
  | (with_reducible refine Ev.isAdd2 ?_; (first
    | walk_at "ex"
    | with_reducible refine Ev.add2_int ?_
    | with_reducible refine Ev.add2_tup (by walk_at "om") ?_
    | with_reducible refine Ev.add2_lst (by walk_at "om") ?_))
  | (with_reducible refine Ev.isMul2 ?_; (first
    | walk_at "ex"
    | with_reducible refine Ev.mul2_int ?_))
  | (with_reducible refine Ev.isEq ?_; with_reducible exact Eq.refl _)
  | (with_reducible refine Ev.isOr ?_; (first
    | with_reducible refine Or.inl (Exists.intro _ (And.intro rfl ?_))
    | with_reducible refine Or.inr (Exists.intro _ (And.intro rfl ?_))
    | with_reducible refine Or.inl (Exists.intro _ (Exists.intro _ (And.intro rfl ?_)))
    | with_reducible refine Or.inr (Exists.intro _ (Exists.intro _ (And.intro rfl ?_)))))))
local macro_rules | `(tactic| walk_at "wp") => `(tactic| repeat' walk_at "w1")

def p_size_of : List D → List Cell → R D := fnM 1 1 (retS (opM shlD (conM (.int 1)) (seeM 0)))
def p_is_integer : List D → List Cell → R D := fnM 2 2 (retS (andV (unM (isiD "int") (varM 0)) (andV (notV (unM (isiD "bool") (varM 0))) (andV (opM geD (seeM 0) (conM (.int 0))) (orV (opM isND (seeM 1) (conM .non)) (opM leD (seeM 0) (seeM 1)))))))
def p_Rule_are_lives : List D → List Cell → R D := fnM 1 4 (seqS (ifS (orB (notB (boolM (unM (isiD "tuple") (varM 0)))) (notB (boolM (chM leD leD (conM (.int 1)) (bltM lenF (consM (seeM 0) (nilM))) (conM (.int 61))))))
    (retS (conM (.bl false)))
    (skipS))
    (seqS (asgS (ifV (boolM (opM isND (opM ixD (seeM 0) (unM negD (conM (.int 1)))) (conM .non))) (slM (seeM 0) (noP) (atP (unM negD (conM (.int 1))))) (varM 0)) (tgN 1))
    (seqS (ifS (notB (boolM (bltM allF (consM (valM (lcM (seqIt (varM 1)) (tgN 2) (yesB) (callM 2 p_is_integer (consM (varM 2) (consM (conM (.int 1000000000000000000)) (nilM)))) [2])) (nilM)))))
    (retS (conM (.bl false)))
    (skipS))
    (retS (bltM allF (consM (valM (lcM (zipIt (consM (varM 1) (consM (slM (seeM 1) (atP (conM (.int 1))) (noP)) (nilM)))) (tgT 2 (tgs1 (tgN 2) (tgs1 (tgN 3) (tgs0)))) (yesB) (opM leD (seeM 2) (seeM 3)) [2, 3])) (nilM)))))))
def p_shortest : List D → List Cell → R D := fnM 1 2 (seqS (asgS (bltM lenF (consM (seeM 0) (nilM))) (tgN 1))
    (seqS (whL (andB (boolM (opM gtD (seeM 1) (conM (.int 1)))) (boolM (opM eqA (opM ixD (seeM 0) (opM subD (seeM 1) (conM (.int 1)))) (opM ixD (seeM 0) (opM subD (seeM 1) (conM (.int 2)))))))
    (augS subD 1 (conM (.int 1))) 100000)
    (retS (bltM tupF (consM (slM (seeM 0) (noP) (atP (seeM 1))) (nilM))))))
def p_Rule_init : List D → List Cell → R D := inM 2 (notB (boolM (smM 0 1 p_Rule_are_lives (conM (.cl 0)) (consM (varM 1) (nilM))))) (badS) (callM 1 p_shortest (consM (varM 1) (nilM)))
def p_Rule_of : List D → List Cell → R D := fnM 2 2 (seqS (ifS (notB (boolM (smM 0 1 p_Rule_are_lives (varM 0) (consM (varM 1) (nilM)))))
    (badS)
    (skipS))
    (retS (mkStarM 0 (inStar p_Rule_init) (varM 0) (varM 1))))
def lfD : Lf → D
  | none => .non
  | some n => .int n
abbrev lvD (L : List Lf) : D := .tup (L.map lfD)
theorem lfD_non {a : Lf} : lfD a = .non ↔ a = none := by cases a <;> simp [lfD]
/-! looks at typed lists -/
theorem atI_map {α : Type} {f : α → D} {xs : List α} {i : Int} {x : α} (h0 : 0 ≤ i) (h : xs[i.toNat]? = some x) : atI (xs.map f) i = some (f x) :=
  atI_nat h0 (by rw [List.getElem?_map, h]; rfl)
theorem ix_lv {L : List Lf} {i : Int} {g : List Cell} (h0 : 0 ≤ i) (h1 : i < L.length) : ixD (lvD L) (.int i) g = some (lfD (at0 L i.toNat)) :=
  atI_map h0 (at0_eq (by omega))
theorem ix_lv_last {L : List Lf} {g : List Cell} (h : 0 < L.length) : ixD (lvD L) (.int (-1)) g = some (lfD (at0 L (L.length - 1))) := by
  show atI _ _ = _
  unfold atI ixN
  rw [if_neg (by decide), if_pos (by simp only [List.length_map]; omega)]
  show (L.map lfD)[((-1 : Int) + (L.map lfD).length).toNat]? = _
  rw [List.length_map, show ((-1 : Int) + L.length).toNat = L.length - 1 by omega, List.getElem?_map, at0_eq (by omega)]
  rfl
theorem ix_lv_2 {L : List Lf} {g : List Cell} (h : 2 ≤ L.length) : ixD (lvD L) (.int (-2)) g = some (lfD (at0 L (L.length - 2))) := by
  show atI _ _ = _
  unfold atI ixN
  rw [if_neg (by decide), if_pos (by simp only [List.length_map]; omega)]
  show (L.map lfD)[((-2 : Int) + (L.map lfD).length).toNat]? = _
  rw [List.length_map, show ((-2 : Int) + L.length).toNat = L.length - 2 by omega, List.getElem?_map, at0_eq (by omega)]
  rfl
theorem len_tup {α : Type} {f : α → D} {L : List α} {g : List Cell} : lenF [.tup (L.map f)] g = some (.int (L.length : Nat)) := by
  show some (D.int ((L.map f).length : Nat)) = _
  rw [List.length_map]
theorem len_lst {α : Type} {f : α → D} {L : List α} {g : List Cell} : lenF [.lst (L.map f)] g = some (.int (L.length : Nat)) := by
  show some (D.int ((L.map f).length : Nat)) = _
  rw [List.length_map]
theorem len_t1 {a : D} {g : List Cell} : lenF [.tup [a]] g = some (.int 1) := rfl
local macro_rules | `(tactic| walk_at "ex") => `(tactic| with_reducible refine Exists.intro _ (And.intro len_t1 ?_))
theorem len_t2 {a b : D} {g : List Cell} : lenF [.tup [a, b]] g = some (.int 2) := rfl
local macro_rules | `(tactic| walk_at "ex") => `(tactic| with_reducible refine Exists.intro _ (And.intro len_t2 ?_))
theorem len_t3 {a b c : D} {g : List Cell} : lenF [.tup [a, b, c]] g = some (.int 3) := rfl
local macro_rules | `(tactic| walk_at "ex") => `(tactic| with_reducible refine Exists.intro _ (And.intro len_t3 ?_))
theorem len_t4 {a b c d : D} {g : List Cell} : lenF [.tup [a, b, c, d]] g = some (.int 4) := rfl
local macro_rules | `(tactic| walk_at "ex") => `(tactic| with_reducible refine Exists.intro _ (And.intro len_t4 ?_))
theorem len_t5 {a b c d e : D} {g : List Cell} : lenF [.tup [a, b, c, d, e]] g = some (.int 5) := rfl
local macro_rules | `(tactic| walk_at "ex") => `(tactic| with_reducible refine Exists.intro _ (And.intro len_t5 ?_))
theorem len_l1 {a : D} {g : List Cell} : lenF [.lst [a]] g = some (.int 1) := rfl
local macro_rules | `(tactic| walk_at "ex") => `(tactic| with_reducible refine Exists.intro _ (And.intro len_l1 ?_))
theorem len_l2 {a b : D} {g : List Cell} : lenF [.lst [a, b]] g = some (.int 2) := rfl
local macro_rules | `(tactic| walk_at "ex") => `(tactic| with_reducible refine Exists.intro _ (And.intro len_l2 ?_))
theorem len_l3 {a b c : D} {g : List Cell} : lenF [.lst [a, b, c]] g = some (.int 3) := rfl
local macro_rules | `(tactic| walk_at "ex") => `(tactic| with_reducible refine Exists.intro _ (And.intro len_l3 ?_))
theorem len_l4 {a b c d : D} {g : List Cell} : lenF [.lst [a, b, c, d]] g = some (.int 4) := rfl
local macro_rules | `(tactic| walk_at "ex") => `(tactic| with_reducible refine Exists.intro _ (And.intro len_l4 ?_))
theorem len_l5 {a b c d e : D} {g : List Cell} : lenF [.lst [a, b, c, d, e]] g = some (.int 5) := rfl
local macro_rules | `(tactic| walk_at "ex") => `(tactic| with_reducible refine Exists.intro _ (And.intro len_l5 ?_))
theorem eqA_lf (a b : Lf) (g : List Cell) : eqA (lfD a) (lfD b) g = some (.bl (decide (a = b))) := by
  cases a <;> cases b
  · rfl
  · rfl
  · rfl
  · rename_i i j
    show some (D.bl (i == j)) = _
    rw [show (decide (some i = some j)) = (i == j) by
      by_cases q : i = j
      · simp [q]
      · simp [q]]
theorem eq2_lf {a b : Lf} {PB : Bool → List Cell → Prop} {g : List Cell} (h : Br (a = b) PB g) : Eq2 (lfD a) (lfD b) PB g := .inr ⟨_, eqA_lf a b g, h.dec⟩
theorem isN_lf {a : Lf} {PB : Bool → List Cell → Prop} {g : List Cell} (h : Br (a = none) PB g) : Br (lfD a = .non) PB g := ⟨fun z => h.1 (lfD_non.mp z), fun z => h.2 fun w => z (lfD_non.mpr w)⟩
theorem cutD_map {f : Lf → D} {L : List Lf} {lo hi : Option Int} : cutD (.tup (L.map f)) lo hi = some (.tup ((cutL L lo hi).map f)) := by
  show some (D.tup (cutL (L.map f) lo hi)) = _
  unfold cutL
  rw [List.length_map, ← List.map_drop, ← List.map_take]
theorem cut_init {α : Type} (ds : List α) : cutL ds none (some (-1)) = ds.take (ds.length - 1) := by
  simp only [cutL, HT.sIx]
  rw [if_pos (by decide), List.drop_zero, Nat.sub_zero]
  congr 1
  omega
theorem cut_tail {α : Type} (ds : List α) : cutL ds (some 1) none = ds.drop 1 := by
  simp only [cutL, HT.sIx]
  rw [if_neg (by decide)]
  by_cases h : ds.length = 0
  · have : ds = [] := List.eq_nil_of_length_eq_zero h
    subst this
    rfl
  · rw [show min (Int.toNat 1) ds.length = 1 by have : Int.toNat 1 = 1 := rfl; omega]
    exact List.take_of_length_le (by rw [List.length_drop]; omega)
theorem cut_to {α : Type} {ds : List α} {n : Int} (h0 : 0 ≤ n) (h : n ≤ ds.length) : cutL ds none (some n) = ds.take n.toNat := by
  simp only [cutL, HT.sIx]
  rw [if_neg (by omega), List.drop_zero, Nat.sub_zero, Nat.min_eq_left (by omega)]
local macro_rules | `(tactic| walk_at "ex") => `(tactic| with_reducible refine Exists.intro _ (And.intro (ix_lv (by walk_at "om") (by walk_at "om")) ?_))
local macro_rules | `(tactic| walk_at "ex") => `(tactic| with_reducible refine Exists.intro _ (And.intro (ix_lv_last (by walk_at "om")) ?_))
local macro_rules | `(tactic| walk_at "ex") => `(tactic| with_reducible refine Exists.intro _ (And.intro (ix_lv_2 (by walk_at "om")) ?_))
local macro_rules | `(tactic| walk_at "ex") => `(tactic| with_reducible refine Exists.intro _ (And.intro len_tup ?_))
local macro_rules | `(tactic| walk_at "ex") => `(tactic| with_reducible refine Exists.intro _ (And.intro len_lst ?_))
local macro_rules | `(tactic| walk_at "ex") => `(tactic| with_reducible refine Exists.intro _ (And.intro cutD_map ?_))
local macro_rules | `(tactic| walk_at "ex") => `(tactic| with_reducible refine eq2_lf ?_)
local macro_rules | `(tactic| walk_at "ex") => `(tactic| with_reducible refine isN_lf ?_)
/-! ### all([.. for ..]) -/
theorem lcMap {α : Type} {tg : D → Ev.Env → Option Ev.Env} {a : M D} {e : Ev.Env} {g : List Cell} {PL : List D → List Cell → Prop} {xs : List α} {f : α → D} (F : α → D)
    (h : ∀ (i : Nat) (x : α), xs[i]? = some x → ∃ e1, tg (f x) e = some e1 ∧ WR (a e1 g) fun y g2 => g2 = g ∧ y = F x) (k : PL (xs.map F) g) : WR (lcL tg yesB a e (xs.map f) g) PL :=
  wp_lcL (fun n acc g1 => g1 = g ∧ acc = (xs.take n).map F) ⟨rfl, rfl⟩ (fun i d acc g1 hd ⟨e1, e2⟩ => by
    subst e1
    rw [List.getElem?_map] at hd
    cases hx : xs[i]? with
    | none => rw [hx] at hd; cases hd
    | some x =>
      rw [hx] at hd
      cases hd
      obtain ⟨e1, h1, h2⟩ := h i x hx
      refine ⟨e1, h1, wp_yes ?_⟩
      rw [if_pos rfl]
      refine h2.mono fun y g2 ⟨y1, y2⟩ => ⟨y1, ?_⟩
      rw [e2, y2, List.take_succ, hx, List.map_append]
      rfl) (fun r g1 ⟨e1, e2⟩ => by
    subst e1
    rw [e2, List.length_map, List.take_length]
    exact k)
theorem all_map {α : Type} (xs : List α) (p : α → Bool) (g : List Cell) : allF [.lst (xs.map fun x => .bl (p x))] g = some (.bl (xs.all p)) := by
  show (blsOf _).map _ = _
  rw [show (xs.map fun x => D.bl (p x)) = (xs.map p).map .bl by rw [List.map_map]; rfl, blsOf_map]
  show some (D.bl ((xs.map p).all fun z => z)) = _
  rw [List.all_map]
  rfl
theorem any_map {α : Type} (xs : List α) (p : α → Bool) (g : List Cell) : anyF [.lst (xs.map fun x => .bl (p x))] g = some (.bl (xs.any p)) := by
  show (blsOf _).map _ = _
  rw [show (xs.map fun x => D.bl (p x)) = (xs.map p).map .bl by rw [List.map_map]; rfl, blsOf_map]
  show some (D.bl ((xs.map p).any fun z => z)) = _
  rw [List.any_map]
  rfl
local macro_rules | `(tactic| walk_at "ex") => `(tactic| with_reducible refine Exists.intro _ (And.intro (all_map _ _ _) ?_))
local macro_rules | `(tactic| walk_at "ex") => `(tactic| with_reducible refine Exists.intro _ (And.intro (any_map _ _ _) ?_))
/-! ### the functions -/
theorem size_of_wp {g : List Cell} {n : Int} (h0 : 0 ≤ n) (h1 : n ≤ 1000000) : WR (p_size_of [.int n] g) fun d g' => g' = g ∧ d = .int (2 ^ n.toNat) := by
  refine wp_fn rfl ?_
  walk_at "wp"
  rw [Int.one_mul]
local macro_rules | `(tactic| walk_at "call") => `(tactic| (with_reducible show WR (p_size_of _ _) _; with_reducible refine WR.eqv (size_of_wp (by walk_at "om") (by walk_at "om")) ?_))
theorem size_of_nat {g : List Cell} {n : Nat} (h1 : n ≤ 1000000) : WR (p_size_of [.int (n : Nat)] g) fun d g' => g' = g ∧ d = .int (2 ^ n) := by
  have := size_of_wp (g := g) (n := n) (by omega) (by omega)
  rwa [Int.toNat_natCast] at this
local macro_rules | `(tactic| walk_at "call") => `(tactic| (with_reducible show WR (p_size_of _ _) _; with_reducible refine WR.eqv (size_of_nat (by walk_at "om")) ?_))
theorem is_integer_wp {g : List Cell} {n h : Int} : WR (p_is_integer [.int n, .int h] g) fun d g' => g' = g ∧ d = .bl (decide (0 ≤ n ∧ n ≤ h)) := by
  refine wp_fn rfl ?_
  walk_at "wp"
  all_goals walk_at "dec"
local macro_rules | `(tactic| walk_at "call") => `(tactic| (with_reducible show WR (p_is_integer _ _) _; with_reducible refine WR.eqv is_integer_wp ?_))
theorem shortest_wp {g : List Cell} {L : List Lf} (h : 0 < L.length) (h1 : L.length ≤ 99999) : WR (p_shortest [lvD L] g) fun d g' => g' = g ∧ d = lvD (short L) := by
  refine wp_fn rfl ?_
  walk_at "wp"
  refine wp_whN (fun k e g' => g' = g ∧ 0 < k ∧ k ≤ L.length ∧ e = [.v (lvD L), .v (.int k)] ∧ cutAt L k = cutAt L L.length) (k := L.length) (by omega) ⟨rfl, h, Nat.le_refl _, rfl, rfl⟩ ?_
  rintro k e _ ⟨rfl, k1, k2, rfl, k3⟩
  obtain ⟨k, rfl⟩ : ∃ n, k = n + 1 := ⟨k - 1, by omega⟩
  walk_at "wp"
  · rename_i a b
    rw [show (((k + 1 : Nat) : Int) - 1).toNat = k by omega, show (((k + 1 : Nat) : Int) - 2).toNat = k - 1 by omega] at b
    refine ⟨k, by omega, rfl, by omega, by omega, by show [Ev.Slot.v (lvD L), Ev.Slot.v (D.int (((k + 1 : Nat) : Int) - 1))] = _; rw [show ((k + 1 : Nat) : Int) - 1 = k by omega], ?_⟩
    rw [← k3, cutAt, if_pos ⟨by omega, b⟩]
  · rename_i a b
    rw [show (((k + 1 : Nat) : Int) - 1).toNat = k by omega, show (((k + 1 : Nat) : Int) - 2).toNat = k - 1 by omega] at b
    rw [cut_to (by omega) (by omega), short, ← k3, cutAt, if_neg fun z => b z.2]
    rfl
  · rename_i a
    have : k = 0 := by omega
    subst this
    rw [cut_to (by omega) (by omega), short, ← k3]
    rfl
local macro_rules | `(tactic| walk_at "call") => `(tactic| (with_reducible show WR (p_shortest _ _) _; with_reducible refine WR.eqv (shortest_wp (by walk_at "om") (by walk_at "om")) ?_))
local macro_rules | `(tactic| walk_at "ex") => `(tactic| with_reducible refine Exists.intro _ (Exists.intro _ (And.intro rfl (And.intro (by walk_at "om") ?_))))
theorem zip_map {α β : Type} {f : α → D} {h : β → D} {xs : List α} {ys : List β} : zipL (xs.map f) (ys.map h) = (xs.zip ys).map fun p => .tup [f p.1, h p.2] := by
  unfold zipL
  rw [List.zip_map, List.map_map]
  rfl
theorem Given.all_fin {L : List Lf} (h : Given L) : ∃ W : List Lf, W = (if at0 L (L.length - 1) = none then L.take (L.length - 1) else L) ∧ (∀ x ∈ W, ∃ n, x = some n ∧ 0 ≤ n ∧ n ≤ 1000000000000000000) ∧ ∀ i, i + 1 < W.length → ∃ m n : Int, W[i]? = some (some m) ∧ W[i + 1]? = some (some n) ∧ m ≤ n := by
  refine ⟨_, rfl, ?_, ?_⟩
  · intro x hx
    have hm : x ∈ L := by
      split at hx
      · exact List.mem_of_mem_take hx
      · exact hx
    have : ∃ n, x = some n := by
      obtain ⟨i, hi, e⟩ := List.getElem_of_mem hx
      split at hx
      · rename_i q
        simp only [if_pos q] at e hi
        rw [List.length_take] at hi
        obtain ⟨n, hn⟩ := h.fin i (by omega)
        refine ⟨n, ?_⟩
        rw [← hn, ← e, List.getElem_take]
        exact Option.some.inj ((List.getElem?_eq_getElem _).symm.trans (at0_eq (by omega)))
      · rename_i q
        simp only [if_neg q] at e hi
        have e2 : x = at0 L i := by rw [← e]; exact Option.some.inj ((List.getElem?_eq_getElem _).symm.trans (at0_eq hi))
        by_cases z : i + 1 < L.length
        · obtain ⟨n, hn⟩ := h.fin i z
          exact ⟨n, e2.trans hn⟩
        · rw [show i = L.length - 1 by omega] at e2
          cases w : at0 L (L.length - 1) with
          | none => exact absurd w q
          | some n => exact ⟨n, e2.trans w⟩
    obtain ⟨n, rfl⟩ := this
    exact ⟨n, rfl, h.nn n hm, h.small n hm⟩
  · intro i hi
    have key : ∀ j, j + 1 < L.length → (j + 2 = L.length → at0 L (j + 1) ≠ none) → ∃ m n : Int, L[j]? = some (some m) ∧ L[j + 1]? = some (some n) ∧ m ≤ n := by
      intro j hj z
      obtain ⟨m, hm⟩ := h.fin j hj
      have hn : ∃ n, at0 L (j + 1) = some n := by
        by_cases q : j + 2 < L.length
        · exact h.fin (j + 1) q
        · cases w : at0 L (j + 1) with
          | none => exact absurd w (z (by omega))
          | some n => exact ⟨n, rfl⟩
      obtain ⟨n, hn⟩ := hn
      refine ⟨m, n, by rw [at0_eq (by omega), hm], by rw [at0_eq hj, hn], ?_⟩
      have := h.up j hj
      rw [hm, hn] at this
      exact this
    split at hi
    · rename_i q
      rw [List.length_take] at hi
      obtain ⟨m, n, a, b, c⟩ := key i (by omega) (by omega)
      simp only [if_pos q]
      exact ⟨m, n, by rw [List.getElem?_take_of_lt (by omega)]; exact a, by rw [List.getElem?_take_of_lt (by omega)]; exact b, c⟩
    · rename_i q
      simp only [if_neg q]
      exact key i hi fun w => by rw [show i + 1 = L.length - 1 by omega]; exact q
theorem are_lives_wp {g : List Cell} {L : List Lf} (h : Given L) : WR (p_Rule_are_lives [lvD L] g) fun d g' => g' = g ∧ d = .bl true := by
  have h1 := h.ne
  have h2 := h.most
  obtain ⟨W, eW, w1, w2⟩ := h.all_fin
  have hW : W.length ≤ 61 := by rw [eW]; split <;> (try rw [List.length_take]) <;> omega
  refine wp_fn rfl ?_
  refine wp_seq ?_
  refine WS.eqv (e1 := [.v (lvD L), .no, .no, .no]) (g1 := g) ?_ ?_
  · walk_at "wq"
  refine wp_seq ?_
  refine WS.eqv (e1 := [.v (lvD L), .v (lvD W), .no, .no]) (g1 := g) ?_ ?_
  · walk_at "wp"
    · rename_i a
      rw [cut_init, eW, if_pos a]
      rfl
    · rename_i a
      rw [eW, if_neg a]
      rfl
  walk_at "wp"
  refine lcMap (fun x => .bl (decide (0 ≤ num x ∧ num x ≤ 1000000000000000000))) ?_ ?_
  · intro i x hx
    obtain ⟨n, rfl, n1, n2⟩ := w1 x (List.mem_of_getElem? hx)
    refine ⟨_, rfl, ?_⟩
    unfold lfD
    walk_at "wp"
    rfl
  · walk_at "wp"
    have hall : (W.all fun x => decide (0 ≤ num x ∧ num x ≤ 1000000000000000000)) = true := by
      rw [List.all_eq_true]
      intro x hx
      obtain ⟨n, rfl, n1, n2⟩ := w1 x hx
      exact decide_eq_true ⟨n1, n2⟩
    rw [hall]
    walk_at "wp"
    rw [zip_map, cut_tail]
    refine ⟨by walk_at "om", ?_⟩
    · skip
      refine lcMap (fun p => .bl (decide (num p.1 ≤ num p.2))) ?_ ?_
      · intro i p hp
        have hl := (List.getElem?_eq_some_iff.mp hp).1
        rw [List.length_zip, List.length_drop] at hl
        obtain ⟨m, n, a, b, c⟩ := w2 i (by omega)
        rw [List.getElem?_zip_eq_some, List.getElem?_drop, show 1 + i = i + 1 by omega, a, b] at hp
        obtain ⟨x, y⟩ := p
        obtain ⟨e1, e2⟩ := hp
        cases e1
        cases e2
        refine ⟨_, rfl, ?_⟩
        show WR (opM leD (seeM 2) (seeM 3) [.v (lvD L), .v (lvD W), .v (.int m), .v (.int n)] g) _
        walk_at "wp"
        exact congrArg D.bl (decide_eq_true c).symm
      · walk_at "wp"
        congr 1
        rw [List.all_eq_true]
        intro p hp
        obtain ⟨i, hl, hp⟩ := List.getElem_of_mem hp
        have hp := (List.getElem?_eq_getElem hl).trans (congrArg some hp)
        rw [List.length_zip, List.length_drop] at hl
        obtain ⟨m, n, a, b, c⟩ := w2 i (by omega)
        rw [List.getElem?_zip_eq_some, List.getElem?_drop, show 1 + i = i + 1 by omega, a, b] at hp
        obtain ⟨x, y⟩ := p
        obtain ⟨e1, e2⟩ := hp
        cases e1
        cases e2
        exact decide_eq_true c
local macro_rules | `(tactic| walk_at "call") => `(tactic| (with_reducible show WR (p_Rule_are_lives _ _) _; with_reducible refine WR.eqv (are_lives_wp (by assumption)) ?_))
/-- a rule of class c -/
abbrev ruD (c : Nat) (L : List Lf) : D := .ob c (lvD L)
theorem init_wp {g : List Cell} {L : List Lf} (h : Given L) : WR (inStar p_Rule_init (L.map lfD) g) fun d g' => g' = g ∧ d = lvD (short L) := by
  have h1 := h.ne
  have h2 := h.most
  refine wp_inStar (by rw [List.length_map]; omega) ?_
  refine wp_in ?_
  show WR _ _
  walk_at "wp"
local macro_rules | `(tactic| walk_at "call") => `(tactic| (with_reducible show WR (inStar _ _ _) _; with_reducible refine WR.eqv (init_wp (by assumption)) ?_))
theorem rule_of_wp {g : List Cell} {L : List Lf} (h : Given L) : WR (p_Rule_of [.cl 0, lvD L] g) fun d g' => g' = g ∧ d = ruD 0 (short L) := by
  have h1 := h.ne
  have h2 := h.most
  refine wp_fn rfl ?_
  walk_at "wp"
local macro_rules | `(tactic| walk_at "call") => `(tactic| (with_reducible show WR (p_Rule_of _ _) _; with_reducible refine WR.eqv (rule_of_wp (by assumption)) ?_))
theorem star_last {L : List Lf} (h : 0 < L.length) (fs : List D → Ev.Env → Option Ev.Env) (e : Ev.Env) : tgStar 2 fs (lvD L) e = fs [.lst ((L.take (L.length - 1)).map lfD), lfD (at0 L (L.length - 1))] e := by
  show (if 2 ≤ (L.map lfD).length + 1 then fs (.lst ((L.map lfD).take ((L.map lfD).length + 1 - 2)) :: (L.map lfD).drop ((L.map lfD).length + 1 - 2)) e else none) = _
  rw [List.length_map, if_pos (by omega), show L.length + 1 - 2 = L.length - 1 by omega, ← List.map_take, ← List.map_drop, List.drop_eq_getElem_cons (by omega), show L.length - 1 + 1 = L.length by omega, List.drop_length]
  have := at0_eq (L := L) (i := L.length - 1) (by omega)
  rw [List.getElem?_eq_getElem (by omega)] at this
  rw [Option.some.inj this]
  rfl
local macro_rules | `(tactic| walk_at "ex") => `(tactic| with_reducible refine Exists.intro _ (And.intro ((star_last (by walk_at "om") _ _).trans (by with_unfolding_all rfl)) ?_))
theorem pow_pos' (k : Nat) : (0 : Int) < 2 ^ k := Int.pow_pos (by decide)
theorem pow_le {a b : Nat} (h : a ≤ b) : (2 : Int) ^ a ≤ 2 ^ b := by exact_mod_cast Nat.pow_le_pow_right (show 2 > 0 by decide) h
theorem enumL_length (xs : List D) : (enumL xs).length = xs.length := by unfold enumL; rw [List.length_zipWith, List.length_range, Nat.min_self]
theorem aug_add {i j : Int} {g : List Cell} {P : D → Prop} (h : P (.int (i + j))) : ∃ z, onI0 (fun i j => D.int (i + j)) (.int i) (.int j) g = some z ∧ P z := ⟨_, rfl, h⟩
local macro_rules | `(tactic| walk_at "ex") => `(tactic| with_reducible refine aug_add ?_)
/-- whole numbers within bounds -/
def IntsIn (lo hi : Int) (ds : List D) : Prop := ∀ d ∈ ds, ∃ k : Int, d = .int k ∧ lo ≤ k ∧ k ≤ hi
theorem IntsIn.nil {lo hi : Int} : IntsIn lo hi [] := fun _ h => nomatch h
theorem IntsIn.cons {lo hi k : Int} {ds : List D} (h1 : lo ≤ k ∧ k ≤ hi) (h : IntsIn lo hi ds) : IntsIn lo hi (.int k :: ds) := fun d hd => by
  rcases List.mem_cons.mp hd with rfl | hd
  · exact ⟨k, rfl, h1⟩
  · exact h d hd
local macro_rules | `(tactic| walk_at "ints") => `(tactic| repeat (first | with_reducible exact IntsIn.nil | with_reducible refine IntsIn.cons (by walk_at "om") ?_))
theorem map_push {L : List Lf} {x : Int} : L.map lfD ++ [.int x] = (L ++ [some x]).map lfD := by rw [List.map_append]; rfl
/-! ### repr -/
structure Rp (d : D) (k n : Nat) : Prop where
  ok : okd d k = true
  sh : shw d = true
  sz : siz d ≤ n
structure Rps (ds : List D) (k n : Nat) : Prop where
  ok : okds ds k = true
  sh : shws ds = true
  sz : sizs ds ≤ n
theorem Rp.int {i : Int} {k : Nat} (h : -340282366920938463463374607431768211456 < i ∧ i < 340282366920938463463374607431768211456) : Rp (.int i) k 130 := by
  have h2 : i.natAbs.log2 < 128 := by
    by_cases q : i.natAbs = 0
    · rw [q]; decide
    · exact (Nat.log2_lt q).mpr (by omega)
  exact ⟨rfl, by simp only [shw, decide_eq_true_eq]; omega, by simp only [siz]; omega⟩
theorem Rp.non {k : Nat} : Rp .non k 4 := ⟨rfl, rfl, Nat.le_refl _⟩
theorem Rp.bl {b : Bool} {k : Nat} : Rp (.bl b) k 5 := ⟨rfl, rfl, Nat.le_refl _⟩
theorem Rps.nil {k : Nat} : Rps [] k 0 := ⟨rfl, rfl, Nat.le_refl _⟩
theorem Rps.cons {d : D} {ds : List D} {k n m : Nat} (h : Rp d k n) (r : Rps ds k m) : Rps (d :: ds) k (n + 2 + m) :=
  ⟨by simp only [okds, h.ok, r.ok]; rfl, by simp only [shws, h.sh, r.sh]; rfl, by simp only [sizs]; have := h.sz; have := r.sz; omega⟩
theorem Rp.tup {ds : List D} {k n : Nat} (h : Rps ds k n) : Rp (.tup ds) (k + 1) (n + 4) :=
  ⟨by simp only [okd, Nat.add_sub_cancel, h.ok, Nat.zero_lt_succ, decide_true]; rfl, by simp only [shw]; exact h.sh, by simp only [siz]; have := h.sz; omega⟩
theorem Rp.lst {ds : List D} {k n : Nat} (h : Rps ds k n) : Rp (.lst ds) (k + 1) (n + 4) :=
  ⟨by simp only [okd, Nat.add_sub_cancel, h.ok, Nat.zero_lt_succ, decide_true]; rfl, by simp only [shw]; exact h.sh, by simp only [siz]; have := h.sz; omega⟩
theorem Rps.map {α : Type} {f : α → D} {k n : Nat} : ∀ {xs : List α}, (∀ x ∈ xs, Rp (f x) k n) → Rps (xs.map f) k ((n + 2) * xs.length)
  | [], _ => Rps.nil
  | x :: xs, h => by
    have a := Rps.cons (h x (List.mem_cons_self ..)) (Rps.map (xs := xs) fun y hy => h y (List.mem_cons_of_mem _ hy))
    exact ⟨a.ok, a.sh, Nat.le_trans a.sz (by rw [List.length_cons, Nat.mul_succ]; omega)⟩
theorem Rp.le {d : D} {k n m : Nat} (h : Rp d k n) (l : n ≤ m) : Rp d k m := ⟨h.ok, h.sh, Nat.le_trans h.sz l⟩
theorem Rps.le {d : List D} {k n m : Nat} (h : Rps d k n) (l : n ≤ m) : Rps d k m := ⟨h.ok, h.sh, Nat.le_trans h.sz l⟩
theorem rpr_of {d : D} {n : Nat} {g : List Cell} (h : Rp d 60 n) (l : n ≤ 16777216) : rprF [d] g = some (.str (toPd d).shown) := by
  unfold rprF
  simp only
  rw [if_pos ⟨h.ok, h.sh, Nat.le_trans h.sz l⟩]
local macro_rules | `(tactic| walk_at "rp") => `(tactic| repeat (first | with_reducible exact Rp.non | with_reducible exact Rp.bl | with_reducible exact Rps.nil | with_reducible apply Rps.cons | with_reducible apply Rp.tup | with_reducible apply Rp.lst | with_reducible exact Rp.int (by walk_at "om") | assumption))
local macro_rules | `(tactic| walk_at "ex") => `(tactic| with_reducible refine Exists.intro _ (And.intro (rpr_of (by walk_at "rp") (by decide)) ?_))
theorem inV_ints (x : Int) : ∀ ns : List Int, inV (.int x) (ns.map V.int) = decide (x ∈ ns)
  | [] => rfl
  | n :: ns => by
    have := inV_ints x ns
    unfold inV at this ⊢
    rw [List.map_cons, List.any_cons, this]
    show (n == x || _) = _
    by_cases q : n = x
    · subst q; simp
    · have q' : ¬ x = n := fun z => q z.symm
      simp [q, q']
theorem all_flat : ∀ ns : List Int, (ns.map D.int).all flatD = true
  | [] => rfl
  | n :: ns => by rw [List.map_cons, List.all_cons, all_flat ns]; rfl
theorem in_ints {x : Int} {ns : List Int} {g : List Cell} : inD false (.int x) (.lst (ns.map D.int)) g = some (.bl (decide (x ∈ ns))) := by
  unfold inD
  simp only
  rw [if_pos ⟨rfl, all_flat ns⟩, List.map_map, show (toV ∘ D.int) = V.int from rfl]
  rw [show toV (D.int x) = V.int x from rfl, inV_ints]
  rfl
theorem nin_ints {x : Int} {ns : List Int} {g : List Cell} : inD true (.int x) (.lst (ns.map D.int)) g = some (.bl (!decide (x ∈ ns))) := by
  unfold inD
  simp only
  rw [if_pos ⟨rfl, all_flat ns⟩, List.map_map, show (toV ∘ D.int) = V.int from rfl]
  rw [show toV (D.int x) = V.int x from rfl, inV_ints]
  rfl
local macro_rules | `(tactic| walk_at "ex") => `(tactic| with_reducible refine Exists.intro _ (And.intro in_ints ?_))
local macro_rules | `(tactic| walk_at "ex") => `(tactic| with_reducible refine Exists.intro _ (And.intro nin_ints ?_))
theorem eqA_pair (a b c d : Int) (g : List Cell) : eqA (.tup [.int a, .int b]) (.tup [.int c, .int d]) g = some (.bl (decide (a = c ∧ b = d))) := by
  show some (D.bl (a == c && (b == d && true))) = _
  by_cases q : a = c
  · by_cases w : b = d
    · rw [decide_eq_true ⟨q, w⟩]; subst q; subst w; simp
    · rw [decide_eq_false fun z => w z.2]; simp [w]
  · rw [decide_eq_false fun z => q z.1]; simp [q]
theorem eq2_pair {a b c d : Int} {PB : Bool → List Cell → Prop} {g : List Cell} (h : Br (a = c ∧ b = d) PB g) : Eq2 (.tup [.int a, .int b]) (.tup [.int c, .int d]) PB g := .inr ⟨_, eqA_pair a b c d g, h.dec⟩
local macro_rules | `(tactic| walk_at "ex") => `(tactic| with_reducible refine eq2_pair ?_)
theorem all_one {b : Bool} {g : List Cell} : allF [.lst [.bl b]] g = some (.bl b) := by cases b <;> rfl
local macro_rules | `(tactic| walk_at "ex") => `(tactic| with_reducible refine Exists.intro _ (And.intro all_one ?_))
mutual
theorem eqv_refl : ∀ {d : D} {n : Nat}, okd d n = true → PyData.eqv (toPd d) (toPd d) = true
  | .non, _, _ => rfl
  | .bl b, _, _ => by cases b <;> rfl
  | .int i, _, _ => by show (i == i) = true; exact beq_self_eq_true i
  | .str x, _, _ => by show (x == x) = true; exact beq_self_eq_true x
  | .tup ds, _, h => by
    simp only [okd, Bool.and_eq_true] at h
    exact eqvs_refl h.2
  | .lst ds, _, h => by
    simp only [okd, Bool.and_eq_true] at h
    exact eqvs_refl h.2
  | .ob _ _, _, h => by simp [okd] at h
  | .g _, _, h => by simp [okd] at h
  | .sc _, _, h => by simp [okd] at h
  | .cl _, _, h => by simp [okd] at h
theorem eqvs_refl : ∀ {ds : List D} {n : Nat}, okds ds n = true → PyData.eqvAll (toPds ds) (toPds ds) = true
  | [], _, _ => rfl
  | d :: ds, _, h => by
    simp only [okds, Bool.and_eq_true] at h
    show (PyData.eqv (toPd d) (toPd d) && PyData.eqvAll (toPds ds) (toPds ds)) = true
    rw [eqv_refl h.1, eqvs_refl h.2]
    rfl
end
mutual
theorem okd_mono : ∀ {d : D} {n m : Nat}, n ≤ m → okd d n = true → okd d m = true
  | .non, _, _, _, _ => rfl
  | .bl b, _, _, _, _ => rfl
  | .int i, _, _, _, _ => rfl
  | .str x, _, _, _, h => h
  | .tup ds, _, _, l, h => by
    simp only [okd, Bool.and_eq_true, decide_eq_true_eq] at h ⊢
    exact ⟨by omega, okds_mono (by omega) h.2⟩
  | .lst ds, _, _, l, h => by
    simp only [okd, Bool.and_eq_true, decide_eq_true_eq] at h ⊢
    exact ⟨by omega, okds_mono (by omega) h.2⟩
  | .ob _ _, _, _, _, h => by simp [okd] at h
  | .g _, _, _, _, h => by simp [okd] at h
  | .sc _, _, _, _, h => by simp [okd] at h
  | .cl _, _, _, _, h => by simp [okd] at h
theorem okds_mono : ∀ {ds : List D} {n m : Nat}, n ≤ m → okds ds n = true → okds ds m = true
  | [], _, _, _, _ => rfl
  | d :: ds, _, _, l, h => by
    simp only [okds, Bool.and_eq_true] at h ⊢
    exact ⟨okd_mono l h.1, okds_mono l h.2⟩
end
theorem eqA_refl {d : D} {g : List Cell} (h : okd d 60 = true) : eqA d d g = some (.bl true) := by
  have h4 := okd_mono (show 60 ≤ 64 by decide) h
  have hP : eqP d d g = some (.bl true) := by
    unfold eqP
    rw [if_pos ⟨h4, h4⟩]
    unfold eqd
    rw [eqv_refl h4]
  unfold eqA orF
  cases d <;> first | exact hP | skip
  rename_i x
  show some (D.bl (x == x)) = _
  rw [beq_self_eq_true]
theorem eq2_refl {d : D} {n : Nat} {PB : Bool → List Cell → Prop} {g : List Cell} (h : Rp d 60 n) (k : PB true g) : Eq2 d d PB g := .inr ⟨_, eqA_refl h.ok, k⟩
local macro_rules | `(tactic| walk_at "ex") => `(tactic| with_reducible refine eq2_refl (by walk_at "rp") ?_)
/-- a comprehension with a test -/
theorem lcFil {α : Type} {tg : D → Ev.Env → Option Ev.Env} {t : M Bool} {a : M D} {e : Ev.Env} {g : List Cell} {PL : List D → List Cell → Prop} {xs : List α} {f : α → D} (p : α → Bool) (F : α → D)
    (h : ∀ (i : Nat) (x : α), xs[i]? = some x → ∃ e1, tg (f x) e = some e1 ∧ WR (t e1 g) fun b g2 => g2 = g ∧ b = p x ∧ (b = true → WR (a e1 g2) fun y g3 => g3 = g ∧ y = F x)) (k : PL ((xs.filter p).map F) g) : WR (lcL tg t a e (xs.map f) g) PL :=
  wp_lcL (fun n acc g1 => g1 = g ∧ acc = ((xs.take n).filter p).map F) ⟨rfl, rfl⟩ (fun i d acc g1 hd ⟨e1, e2⟩ => by
    subst e1
    rw [List.getElem?_map] at hd
    cases hx : xs[i]? with
    | none => rw [hx] at hd; cases hd
    | some x =>
      rw [hx] at hd
      cases hd
      obtain ⟨e1, h1, h2⟩ := h i x hx
      refine ⟨e1, h1, ?_⟩
      refine h2.mono fun b g2 ⟨y1, y2, y3⟩ => ?_
      subst y1
      rw [List.take_succ, hx, List.filter_append, List.map_append]
      have e3 : (some x).toList = [x] := rfl
      rw [e3, List.filter_cons, List.filter_nil]
      cases b with
      | true =>
        rw [if_pos rfl, ← y2]
        refine (y3 rfl).mono fun y g3 ⟨z1, z2⟩ => ⟨z1, ?_⟩
        rw [e2, z2]
        rfl
      | false =>
        rw [if_neg (by decide), ← y2]
        exact ⟨rfl, by rw [e2]; simp⟩) (fun r g1 ⟨e1, e2⟩ => by
    subst e1
    rw [e2, List.length_map, List.take_length]
    exact k)
/-! is True, is False -/
theorem ex_isT {b : Bool} {P : D → Prop} {g : List Cell} (h : P (.bl b)) : ∃ d, isBD (.bl b) (.bl true) g = some d ∧ P d := ⟨_, rfl, by cases b <;> exact h⟩
theorem ex_isF {b : Bool} {P : D → Prop} {g : List Cell} (h : P (.bl (!b))) : ∃ d, isBD (.bl b) (.bl false) g = some d ∧ P d := ⟨_, rfl, by cases b <;> exact h⟩
theorem ex_notT {b : Bool} {P : D → Prop} {g : List Cell} (h : P (.bl (!b))) : ∃ d, notBD (.bl b) (.bl true) g = some d ∧ P d := ⟨_, rfl, by cases b <;> exact h⟩
theorem ex_notF {b : Bool} {P : D → Prop} {g : List Cell} (h : P (.bl b)) : ∃ d, notBD (.bl b) (.bl false) g = some d ∧ P d := ⟨_, rfl, by cases b <;> exact h⟩
local macro_rules | `(tactic| walk_at "ex") => `(tactic| with_reducible refine ex_isT ?_)
local macro_rules | `(tactic| walk_at "ex") => `(tactic| with_reducible refine ex_isF ?_)
local macro_rules | `(tactic| walk_at "ex") => `(tactic| with_reducible refine ex_notT ?_)
local macro_rules | `(tactic| walk_at "ex") => `(tactic| with_reducible refine ex_notF ?_)
theorem eqA_bl {b c : Bool} {g : List Cell} : eqA (.bl b) (.bl c) g = some (.bl (decide (b = c))) := by cases b <;> cases c <;> rfl
theorem eq2_bl {b c : Bool} {PB : Bool → List Cell → Prop} {g : List Cell} (h : Br (b = c) PB g) : Eq2 (.bl b) (.bl c) PB g := .inr ⟨_, eqA_bl, h.dec⟩
local macro_rules | `(tactic| walk_at "ex") => `(tactic| with_reducible refine eq2_bl ?_)
theorem cutD_lst {f : Lf → D} {L : List Lf} {lo hi : Option Int} : cutD (.lst (L.map f)) lo hi = some (.lst ((cutL L lo hi).map f)) := by
  show some (D.lst (cutL (L.map f) lo hi)) = _
  unfold cutL
  rw [List.length_map, ← List.map_drop, ← List.map_take]
theorem ix_ll_last {L : List Lf} {g : List Cell} (h : 0 < L.length) : ixD (.lst (L.map lfD)) (.int (-1)) g = some (lfD (at0 L (L.length - 1))) := ix_lv_last (g := g) h
local macro_rules | `(tactic| walk_at "ex") => `(tactic| with_reducible refine Exists.intro _ (And.intro cutD_lst ?_))
local macro_rules | `(tactic| walk_at "ex") => `(tactic| with_reducible refine Exists.intro _ (And.intro (ix_ll_last (by walk_at "om")) ?_))

def p_LongRule_init : List D → List Cell → R D := superM 3 (inStar p_Rule_init) (callM 1 p_shortest (consM (varM 1) (nilM)))
def p_life_of : List D → List Cell → R D := fnM 2 2 (retS (ifV (orB (boolM (opM isND (seeM 1) (conM .non))) (boolM (opM geD (seeM 1) (bltM lenF (consM (seeM 0) (nilM)))))) (opM ixD (seeM 0) (unM negD (conM (.int 1)))) (opM ixD (seeM 0) (seeM 1))))
def p_pairs_of : List D → List Cell → R D := fnM 2 4 (seqS (asgS (bltM maxF (consM (bltM lenF (consM (seeM 0) (nilM))) (consM (bltM lenF (consM (seeM 1) (nilM))) (nilM)))) (tgN 2))
    (retS (valM (lcM (rngIt (consM (seeM 2) (nilM))) (tgN 3) (yesB) (tupM (consM (callM 2 p_life_of (consM (varM 0) (consM (varM 3) (nilM)))) (consM (callM 2 p_life_of (consM (varM 1) (consM (varM 3) (nilM)))) (nilM)))) [3]))))
def p_is_at_least : List D → List Cell → R D := fnM 2 2 (retS (orV (opM isND (seeM 0) (conM .non)) (andV (opM notND (seeM 1) (conM .non)) (opM geD (seeM 0) (seeM 1)))))
def p_lesser : List D → List Cell → R D := fnM 2 2 (retS (ifV (boolM (callM 2 p_is_at_least (consM (varM 0) (consM (varM 1) (nilM))))) (varM 1) (varM 0)))
def p_greater : List D → List Cell → R D := fnM 2 2 (retS (ifV (boolM (callM 2 p_is_at_least (consM (varM 0) (consM (varM 1) (nilM))))) (varM 0) (varM 1)))
def p_lesser_lives : List D → List Cell → R D := fnM 2 4 (retS (bltM tupF (consM (valM (lcM (seqIt (callM 2 p_pairs_of (consM (varM 0) (consM (varM 1) (nilM))))) (tgT 2 (tgs1 (tgN 2) (tgs1 (tgN 3) (tgs0)))) (yesB) (callM 2 p_lesser (consM (varM 2) (consM (varM 3) (nilM)))) [2, 3])) (nilM))))
def p_greater_lives : List D → List Cell → R D := fnM 2 4 (retS (bltM tupF (consM (valM (lcM (seqIt (callM 2 p_pairs_of (consM (varM 0) (consM (varM 1) (nilM))))) (tgT 2 (tgs1 (tgN 2) (tgs1 (tgN 3) (tgs0)))) (yesB) (callM 2 p_greater (consM (varM 2) (consM (varM 3) (nilM)))) [2, 3])) (nilM))))
def p_longer_lives : List D → List Cell → R D := fnM 2 3 (retS (bltM tupF (consM (valM (lcM (seqIt (varM 0)) (tgN 2) (yesB) (ifV (boolM (opM isND (seeM 2) (conM .non))) (conM .non) (opM addD (seeM 2) (seeM 1))) [2])) (nilM))))
def p_Rule_and : List D → List Cell → R D := fnM 2 2 (retS (mkM 1 (p_LongRule_init) (consM (callM 2 p_lesser_lives (consM (unM (fldD 2) (varM 0)) (consM (unM (fldD 2) (varM 1)) (nilM)))) (nilM))))
def p_Rule_or : List D → List Cell → R D := fnM 2 2 (retS (mkM 1 (p_LongRule_init) (consM (callM 2 p_greater_lives (consM (unM (fldD 2) (varM 0)) (consM (unM (fldD 2) (varM 1)) (nilM)))) (nilM))))
def p_Rule_add : List D → List Cell → R D := fnM 2 2 (retS (mkM 1 (p_LongRule_init) (consM (callM 2 p_longer_lives (consM (unM (fldD 2) (varM 0)) (consM (varM 1) (nilM)))) (nilM))))
def p_changed : List D → List Cell → R D := fnM 3 3 (retS (two (kRu p_Rule_and) (varM 1) (two (kRuI p_Rule_add) (varM 0) (varM 2))))
def p_Rule_eq : List D → List Cell → R D := fnM 2 2 (retS (andV (unM (isiRu 0) (varM 1)) (opM eqA (unM (fldD 2) (varM 0)) (unM (fldD 2) (varM 1)))))
def p_are_within : List D → List Cell → R D := fnM 2 4 (retS (bltM allF (consM (valM (lcM (seqIt (callM 2 p_pairs_of (consM (varM 0) (consM (varM 1) (nilM))))) (tgT 2 (tgs1 (tgN 2) (tgs1 (tgN 3) (tgs0)))) (yesB) (callM 2 p_is_at_least (consM (varM 3) (consM (varM 2) (nilM)))) [2, 3])) (nilM))))
def p_Rule_le : List D → List Cell → R D := fnM 2 2 (retS (callM 2 p_are_within (consM (unM (fldD 2) (varM 0)) (consM (unM (fldD 2) (varM 1)) (nilM)))))
def p_Rule_len : List D → List Cell → R D := fnM 1 1 (retS (bltM lenF (consM (unM (fldD 2) (varM 0)) (nilM))))
def p_Rule_getitem : List D → List Cell → R D := fnM 2 2 (seqS (ifS (notB (boolM (callM 1 (fun ds g => p_is_integer (ds ++ [.non]) g) (consM (varM 1) (nilM)))))
    (badS)
    (skipS))
    (retS (callM 2 p_life_of (consM (unM (fldD 2) (varM 0)) (consM (varM 1) (nilM))))))
def p_settled : List D → List Cell → R D := fnM 2 4 (seqS (asgS (conM (.int 0)) (tgN 2))
    (seqS (forS (rngIt (consM (bltM maxF (consM (ruLen p_Rule_len (consM (varM 0) (nilM))) (consM (ruLen p_Rule_len (consM (varM 1) (nilM))) (nilM)))) (nilM))) (tgN 3)
    (ifS (boolM (opM notND (two (kRuX p_Rule_getitem) (varM 0) (varM 3)) (conM .non)))
    (seqS (ifS (boolM (opM isND (two (kRuX p_Rule_getitem) (varM 1) (varM 3)) (conM .non)))
    (retS (conM .non))
    (skipS))
    (asgS (bltM maxF (consM (seeM 2) (consM (opM subD (two (kRuX p_Rule_getitem) (varM 1) (varM 3)) (two (kRuX p_Rule_getitem) (varM 0) (varM 3))) (nilM)))) (tgN 2)))
    (skipS)))
    (retS (varM 2))))
def p_worst_of : List D → List Cell → R D := fnM 2 4 (seqS (forS (enumIt (consM (varM 0) (nilM))) (tgT 2 (tgs1 (tgN 2) (tgs1 (tgN 3) (tgs0))))
    (ifS (boolM (callM 2 p_is_at_least (consM (varM 3) (consM (opM addD (seeM 1) (callM 1 p_size_of (consM (varM 2) (nilM)))) (nilM)))))
    (retS (opM subD (callM 1 p_size_of (consM (varM 2) (nilM))) (conM (.int 1))))
    (skipS)))
    (retS (conM .non)))
def p_Rule_call : List D → List Cell → R D := fnM 2 2 (retS (callM 2 p_worst_of (consM (unM (fldD 2) (varM 0)) (consM (varM 1) (nilM)))))
def p_worst : List D → List Cell → R D := fnM 2 2 (retS (ruCall 2 p_Rule_call (varM 0) (consM (varM 1) (nilM))))
def p_rule_from : List D → List Cell → R D := fnM 1 1 (retS (mkM 1 (p_LongRule_init) (consM (varM 0) (nilM))))

theorem life_of_wp {g : List Cell} {L : List Lf} {i : Int} (h : 0 < L.length) (h0 : 0 ≤ i) : WR (p_life_of [lvD L, .int i] g) fun d g' => g' = g ∧ d = lfD (fl L i.toNat) := by
  refine wp_fn rfl ?_
  walk_at "wp"
  · rename_i a
    rw [fl_last (by omega)]
  · rename_i a
    rw [fl_lt (by omega)]
local macro_rules | `(tactic| walk_at "call") => `(tactic| (with_reducible show WR (p_life_of _ _) _; with_reducible refine WR.eqv (life_of_wp (by walk_at "om") (by walk_at "om")) ?_))
theorem is_at_least_wp {g : List Cell} {a b : Lf} : WR (p_is_at_least [lfD a, lfD b] g) fun d g' => g' = g ∧ d = .bl (decide (LeL b a)) := by
  refine wp_fn rfl ?_
  cases a <;> cases b <;> unfold lfD <;> walk_at "wp"
  all_goals first | rfl | (apply congrArg; first | exact (decide_eq_true (show _ ≤ _ by assumption)).symm | exact (decide_eq_false (show ¬ _ ≤ _ by assumption)).symm)
local macro_rules | `(tactic| walk_at "call") => `(tactic| (with_reducible show WR (p_is_at_least _ _) _; with_reducible refine WR.eqv is_at_least_wp ?_))
theorem is_at_least_int {g : List Cell} {a : Lf} {n : Int} : WR (p_is_at_least [lfD a, .int n] g) fun d g' => g' = g ∧ d = .bl (decide (LeL (some n) a)) := is_at_least_wp (b := some n)
local macro_rules | `(tactic| walk_at "call") => `(tactic| (with_reducible show WR (p_is_at_least _ _) _; with_reducible refine WR.eqv is_at_least_int ?_))
/-- pairs of two lives -/
abbrev prD (p : Lf × Lf) : D := .tup [lfD p.1, lfD p.2]
local macro_rules | `(tactic| walk_at "rul") => `(tactic| first | assumption | (with_reducible apply Given.rul; assumption) | (with_reducible apply andR_rul <;> walk_at "rul") | (with_reducible apply orR_rul <;> walk_at "rul") | (with_reducible apply addR_rul; (walk_at "rul"); (walk_at "om")))
/-- the rule behind a change -/
def chR (L M : List Lf) (t : Int) : List Lf := andR M (addR L t)
theorem chR_rul {L M : List Lf} {t : Int} (hL : Rul L) (hM : Rul M) (ht : 0 ≤ t) : Rul (chR L M t) := andR_rul hM (addR_rul hL ht)
local macro_rules | `(tactic| walk_at "rul") => `(tactic| (with_reducible apply chR_rul; (walk_at "rul"); (walk_at "rul"); (walk_at "om")))
/-! == -/
theorem eqv_map_lf : ∀ (L M : List Lf), PyData.eqvAll (toPds (L.map lfD)) (toPds (M.map lfD)) = decide (L = M)
  | [], [] => rfl
  | [], _ :: _ => rfl
  | _ :: _, [] => rfl
  | a :: L, b :: M => by
    show (PyData.eqv (toPd (lfD a)) (toPd (lfD b)) && PyData.eqvAll (toPds (L.map lfD)) (toPds (M.map lfD))) = _
    rw [eqv_map_lf L M]
    have h : PyData.eqv (toPd (lfD a)) (toPd (lfD b)) = decide (a = b) := by
      cases a <;> cases b
      · rfl
      · rfl
      · rfl
      · rename_i i j
        show (i == j) = _
        by_cases q : i = j
        · subst q; simp
        · rw [decide_eq_false (fun z => q (Option.some.inj z)), beq_eq_false_iff_ne.mpr q]
    rw [h]
    by_cases q : a = b
    · subst q
      by_cases w : L = M
      · subst w; simp
      · rw [decide_eq_false w, decide_eq_false (fun z => w (List.cons.inj z).2)]; simp
    · rw [decide_eq_false q, decide_eq_false (fun z => q (List.cons.inj z).1)]; simp
theorem okds_lf : ∀ (L : List Lf) (k : Nat), okds (L.map lfD) k = true
  | [], _ => rfl
  | a :: L, k => by
    simp only [List.map_cons, okds]
    rw [okds_lf L k]
    cases a <;> rfl
theorem eqA_lv (L M : List Lf) (g : List Cell) : eqA (lvD L) (lvD M) g = some (.bl (decide (L = M))) := by
  have h1 : ∀ L : List Lf, okd (lvD L) 64 = true := fun L => by
    simp only [okd, okds_lf]
    rfl
  have hP : eqP (lvD L) (lvD M) g = some (.bl (decide (L = M))) := by
    unfold eqP
    rw [if_pos ⟨h1 L, h1 M⟩]
    unfold eqd
    show some (D.bl (PyData.eqvAll (toPds (L.map lfD)) (toPds (M.map lfD)))) = _
    rw [eqv_map_lf]
  unfold eqA orF
  exact hP
theorem eq2_lv {L M : List Lf} {PB : Bool → List Cell → Prop} {g : List Cell} (h : Br (L = M) PB g) : Eq2 (lvD L) (lvD M) PB g := .inr ⟨_, eqA_lv L M g, h.dec⟩
local macro_rules | `(tactic| walk_at "ex") => `(tactic| with_reducible refine eq2_lv ?_)
theorem rule_eq_wp {g : List Cell} {c c' : Nat} {L M : List Lf} (hc : c < 2) (hc' : c' < 2) : WR (p_Rule_eq [ruD c L, ruD c' M] g) fun d g' => g' = g ∧ d = .bl (decide (L = M)) := by
  refine wp_fn rfl ?_
  walk_at "wp"
  all_goals first | (rename_i h; rw [decide_eq_true h]) | (rename_i h; rw [decide_eq_false h]) | skip
theorem kRuE_wp {g : List Cell} {c c' : Nat} {L M : List Lf} {neg : Bool} {P : D → List Cell → Prop} (hc : c < 2) (hc' : c' < 2) (h : P (.bl (if neg then !decide (L = M) else decide (L = M))) g) : WR (kRuE neg p_Rule_eq (ruD c L) (ruD c' M) g) P :=
  wp_kRuE hc hc' ⟨fun _ => WR.eqv (rule_eq_wp hc' hc) ⟨_, rfl, by rw [show decide (M = L) = decide (L = M) by by_cases q : L = M <;> simp [q, eq_comm]]; exact h⟩, fun _ => WR.eqv (rule_eq_wp hc hc') ⟨_, rfl, h⟩⟩
theorem kRuE_tt {g : List Cell} {c c' : Nat} {L M : List Lf} {PB : Bool → List Cell → Prop} (hc : c < 2) (hc' : c' < 2) (h : Br (L = M) PB g) : WR (kRuE false p_Rule_eq (ruD c L) (ruD c' M) g) fun d g1 => ∃ b, d = .bl b ∧ PB b g1 :=
  kRuE_wp hc hc' ⟨_, rfl, h.dec⟩
theorem Br.ndec {p : Prop} [Decidable p] {PB : Bool → List Cell → Prop} {g : List Cell} (h : Br (¬ p) PB g) : PB (!decide p) g := by
  by_cases q : p
  · rw [decide_eq_true q]; exact h.2 (fun z => z q)
  · rw [decide_eq_false q]; exact h.1 q
theorem kRuE_ff {g : List Cell} {c c' : Nat} {L M : List Lf} {PB : Bool → List Cell → Prop} (hc : c < 2) (hc' : c' < 2) (h : Br (L ≠ M) PB g) : WR (kRuE true p_Rule_eq (ruD c L) (ruD c' M) g) fun d g1 => ∃ b, d = .bl b ∧ PB b g1 :=
  kRuE_wp hc hc' ⟨_, rfl, Br.ndec h⟩
local macro_rules | `(tactic| walk_at "call") => `(tactic| (with_reducible show WR (kRuE _ _ _ _ _) _; with_reducible refine kRuE_wp (by first | assumption | decide) (by first | assumption | decide) ?_))
local macro_rules | `(tactic| walk_at "call") => `(tactic| (with_reducible show WR (kRuE _ _ _ _ _) _; with_reducible refine kRuE_tt (by first | assumption | decide) (by first | assumption | decide) ?_))
local macro_rules | `(tactic| walk_at "call") => `(tactic| (with_reducible show WR (kRuE _ _ _ _ _) _; with_reducible refine kRuE_ff (by first | assumption | decide) (by first | assumption | decide) ?_))
theorem rule_len_wp {g : List Cell} {c : Nat} {L : List Lf} (hc : c < 2) : WR (p_Rule_len [ruD c L] g) fun d g' => g' = g ∧ d = .int (L.length : Nat) := by
  refine wp_fn rfl ?_
  walk_at "wp"
local macro_rules | `(tactic| walk_at "call") => `(tactic| (with_reducible show WR (p_Rule_len _ _) _; with_reducible refine WR.eqv (rule_len_wp (by first | assumption | decide)) ?_))
theorem ruLen_ok {c : Nat} {L : List Lf} {g : List Cell} {P : D → List Cell → Prop} (hc : c < 2) (hl : L.length ≤ 1000000) (h : P (.int (L.length : Nat)) g) : ∃ c' d, [ruD c L] = [.ob c' d] ∧ c' < 2 ∧ WR (p_Rule_len [.ob c' d] g) fun x g2 => ∃ n, x = .int n ∧ (0 ≤ n ∧ n < 9223372036854775808) ∧ P (.int n) g2 :=
  ⟨c, _, rfl, hc, WR.eqv (rule_len_wp hc) ⟨_, rfl, by omega, h⟩⟩
local macro_rules | `(tactic| walk_at "ex") => `(tactic| with_reducible refine ruLen_ok (by first | assumption | decide) (by walk_at "om") ?_)
theorem is_integer_non {g : List Cell} {n : Int} : WR (p_is_integer [.int n, .non] g) fun d g' => g' = g ∧ d = .bl (decide (0 ≤ n)) := by
  refine wp_fn rfl ?_
  walk_at "wp"
  all_goals walk_at "dec"
theorem is_integer_dfl {g : List Cell} {n : Int} {P : D → List Cell → Prop} (h : P (.bl (decide (0 ≤ n))) g) : WR (p_is_integer ([.int n] ++ [.non]) g) P := WR.eqv is_integer_non h
local macro_rules | `(tactic| walk_at "call") => `(tactic| with_reducible refine is_integer_dfl ?_)
/-! repr of lives -/
structure LvOk (L : List Lf) : Prop where
  len : L.length ≤ 61
  lo : ∀ n, some n ∈ L → 0 ≤ n
  hi : ∀ n, some n ∈ L → n ≤ 1000000000000000000000000000000
theorem Rp.lf {a : Lf} {k : Nat} (h : ∀ n, a = some n → 0 ≤ n ∧ n ≤ 1000000000000000000000000000000) : Rp (lfD a) k 130 := by
  cases a with
  | none => exact Rp.non.le (by decide)
  | some n =>
    have := h n rfl
    exact Rp.int (by omega)
theorem Rp.lv {L : List Lf} {k : Nat} (h : LvOk L) : Rp (lvD L) (k + 1) 9000 := by
  refine (Rp.tup (Rps.map (n := 130) (k := k) fun x hx => Rp.lf fun n e => ⟨h.lo n (e ▸ hx), h.hi n (e ▸ hx)⟩)).le ?_
  have := h.len
  omega
theorem Given.lv {L : List Lf} (h : Given L) : LvOk L := ⟨h.most, h.nn, fun n hn => Int.le_trans (h.small n hn) (by decide)⟩
theorem Rul.lv {L : List Lf} {M : Int} (h : Rul L) (b : Bd M L) (hM : M ≤ 1000000000000000000000000000000) : LvOk L := ⟨h.most, h.nn, fun n hn => Int.le_trans (b n hn) hM⟩
local macro_rules | `(tactic| walk_at "rp") => `(tactic| repeat (first | with_reducible exact Rp.non | with_reducible exact Rp.bl | with_reducible exact Rps.nil | with_reducible exact Rp.lv (by first | assumption | (with_reducible apply Given.lv; assumption)) | with_reducible apply Rps.cons | with_reducible apply Rp.tup | with_reducible apply Rp.lst | with_reducible exact Rp.int (by walk_at "om") | assumption))
/-- all([.. for ..]), each turn true, told by the turn -/
theorem lcTn (I : Nat → List Cell → Prop) {tg : D → Ev.Env → Option Ev.Env} {a : M D} {e : Ev.Env} {g : List Cell} {PL : List D → List Cell → Prop} {ds : List D} (q : I 0 g)
    (h : ∀ (i : Nat) (d : D) (g : List Cell), ds[i]? = some d → I i g → ∃ e1, tg d e = some e1 ∧ WR (a e1 g) fun y g2 => y = .bl true ∧ I (i + 1) g2) (k : ∀ g, I ds.length g → PL (List.replicate ds.length (.bl true)) g) : WR (lcL tg yesB a e ds g) PL :=
  wp_lcL (fun n acc g => acc = List.replicate n (.bl true) ∧ I n g) ⟨rfl, q⟩ (fun i d acc g hd z => by
    obtain ⟨e1, q⟩ := z
    obtain ⟨e2, h1, h2⟩ := h i d g hd q
    refine ⟨e2, h1, wp_yesT ?_⟩
    rw [if_pos rfl]
    refine h2.mono fun y g2 ⟨y1, i2⟩ => ⟨?_, i2⟩
    rw [e1, y1, List.replicate_succ']) (fun r g ⟨e1, q⟩ => by rw [e1]; exact k g q)

/-! Cx: worst distances -/
theorem worst_bd {L : List Lf} {a n : Int} (h : L.length ≤ 61) (e : worstL L a = some n) : 0 ≤ n ∧ n ≤ 1152921504606846976 := by
  unfold worstL at e
  cases q : least (en L a) L.length with
  | none => rw [q] at e; cases e
  | some j =>
    rw [q] at e
    have e : some ((2 : Int) ^ j - 1) = some n := e
    cases e
    have := (least_some.mp q).1
    have w1 := pow_le (a := j) (b := 60) (by omega)
    have w2 := pow_pos' j
    have w4 : (2 : Int) ^ 60 = 1152921504606846976 := by decide
    omega
theorem Rp.worst {L : List Lf} {a : Int} {k : Nat} (h : L.length ≤ 61) : Rp (lfD (worstL L a)) k 130 := Rp.lf fun n e => by
  have := worst_bd h e
  omega
local macro_rules | `(tactic| walk_at "rp") => `(tactic| repeat (first | with_reducible exact Rp.non | with_reducible exact Rp.bl | with_reducible exact Rps.nil | with_reducible exact Rp.worst (by walk_at "om") | with_reducible exact Rp.lv (by first | assumption | (with_reducible apply Given.lv; assumption)) | with_reducible apply Rps.cons | with_reducible apply Rp.tup | with_reducible apply Rp.lst | with_reducible exact Rp.int (by walk_at "om") | assumption))
/-! Cz: restore points -/
def p_worst_tick : List D → List Cell → R D := fnM 2 5 (seqS (ownS (lcM (enumIt (consM (unM (fldD 2) (varM 0)) (nilM))) (tgT 2 (tgs1 (tgN 3) (tgs1 (tgN 4) (tgs0)))) (boolM (callM 2 p_is_at_least (consM (varM 4) (consM (opM addD (seeM 1) (callM 1 p_size_of (consM (varM 3) (nilM)))) (nilM))))) (varM 3) [3, 4]) 2)
    (seqS (asgS (ifV (boolM (opM neA (seeM 2) (valM (fitM (nilM))))) (opM ixD (seeM 2) (conM (.int 0))) (opM subD (ruLen p_Rule_len (consM (varM 0) (nilM))) (conM (.int 1)))) (tgN 3))
    (retS (opM subD (opM addD (seeM 1) (callM 1 p_size_of (consM (varM 3) (nilM)))) (conM (.int 1))))))
def p_youngest : List D → List Cell → R D := fnM 2 3 (seqS (asgS (callM 1 p_size_of (consM (varM 1) (nilM))) (tgN 2))
    (retS (ifV (boolM (opM geD (seeM 0) (seeM 2))) (opM subD (seeM 0) (opM modD (opM subD (seeM 0) (seeM 2)) (opM mulD (conM (.int 2)) (seeM 2)))) (conM .non))))
def p_youngest_by : List D → List Cell → R D := fnM 3 3 (seqS (ifS (boolM (opM eqA (seeM 2) (opM subD (ruLen p_Rule_len (consM (varM 0) (nilM))) (conM (.int 1)))))
    (retS (opM subD (seeM 1) (opM modD (seeM 1) (callM 1 p_size_of (consM (varM 2) (nilM))))))
    (skipS))
    (retS (callM 2 p_youngest (consM (varM 1) (consM (varM 2) (nilM))))))
def p_oldest_kept : List D → List Cell → R D := fnM 3 4 (seqS (asgS (opM ixD (unM (fldD 2) (varM 0)) (seeM 2)) (tgN 3))
    (retS (ifV (boolM (opM isND (seeM 3) (conM .non))) (conM (.int 0)) (bltM maxF (consM (conM (.int 0)) (consM (opM addD (opM subD (seeM 1) (seeM 3)) (conM (.int 1))) (nilM)))))))
def p_restore_point : List D → List Cell → R D := fnM 3 7 (seqS (ownS (lcM (rngIt (consM (ruLen p_Rule_len (consM (varM 0) (nilM))) (nilM))) (tgN 5) (yesB) (callM 3 p_youngest_by (consM (varM 0) (consM (opM subD (seeM 1) (seeM 2)) (consM (varM 5) (nilM))))) [5]) 3)
    (seqS (frzS 3 (ownS (lcM (enumIt (consM (varM 3) (nilM))) (tgT 2 (tgs1 (tgN 5) (tgs1 (tgN 6) (tgs0)))) (andB (boolM (opM notND (seeM 6) (conM .non))) (boolM (opM geD (seeM 6) (callM 3 p_oldest_kept (consM (varM 0) (consM (varM 1) (consM (varM 5) (nilM)))))))) (varM 6) [5, 6]) 4))
    (retS (bltM maxDF (consM (seeM 4) (nilM))))))
def p_distance : List D → List Cell → R D := fnM 3 4 (seqS (asgS (callM 3 p_restore_point (consM (varM 0) (consM (varM 1) (consM (varM 2) (nilM))))) (tgN 3))
    (retS (ifV (boolM (opM isND (seeM 3) (conM .non))) (conM .non) (opM subD (opM subD (seeM 1) (seeM 3)) (seeM 2)))))
def p_shows_worst : List D → List Cell → R D := fnM 3 3 (retS (andV (callM 1 (fun ds g => p_is_integer (ds ++ [.non]) g) (consM (varM 2) (nilM))) (andV (opM geD (seeM 2) (seeM 1)) (opM eqA (callM 3 p_distance (consM (varM 0) (consM (varM 2) (consM (varM 1) (nilM))))) (callM 2 p_worst (consM (varM 0) (consM (varM 1) (nilM))))))))
theorem ix_int {L : List Lf} {i x : Int} {g : List Cell} (h0 : 0 ≤ i) (h1 : i < L.length) (h : at0 L i.toNat = some x) : ixD (lvD L) (.int i) g = some (.int x) := by rw [ix_lv h0 h1, h]; rfl
theorem ix_non {L : List Lf} {i : Int} {g : List Cell} (h0 : 0 ≤ i) (h1 : i < L.length) (h : at0 L i.toNat = none) : ixD (lvD L) (.int i) g = some .non := by rw [ix_lv h0 h1, h]; rfl
local macro_rules | `(tactic| walk_at "ex") => `(tactic| with_reducible refine Exists.intro _ (And.intro (ix_int (by walk_at "om") (by walk_at "om") (by assumption)) ?_))
local macro_rules | `(tactic| walk_at "ex") => `(tactic| with_reducible refine Exists.intro _ (And.intro (ix_non (by walk_at "om") (by walk_at "om") (by assumption)) ?_))
theorem ix_last_int {L : List Lf} {x : Int} {g : List Cell} (h1 : 0 < L.length) (h : at0 L (L.length - 1) = some x) : ixD (lvD L) (.int (-1)) g = some (.int x) := by rw [ix_lv_last h1, h]; rfl
theorem ix_last_non {L : List Lf} {g : List Cell} (h1 : 0 < L.length) (h : at0 L (L.length - 1) = none) : ixD (lvD L) (.int (-1)) g = some .non := by rw [ix_lv_last h1, h]; rfl
local macro_rules | `(tactic| walk_at "ex") => `(tactic| with_reducible refine Exists.intro _ (And.intro (ix_last_int (by walk_at "om") (by assumption)) ?_))
local macro_rules | `(tactic| walk_at "ex") => `(tactic| with_reducible refine Exists.intro _ (And.intro (ix_last_non (by walk_at "om") (by assumption)) ?_))
theorem oldest_wp {g : List Cell} {c : Nat} {L : List Lf} {t : Int} {i : Nat} (hc : c < 2) (hi : i < L.length) : WR (p_oldest_kept [ruD c L, .int t, .int (i : Nat)] g) fun d g' => g' = g ∧ d = .int (oldI L t i) := by
  refine wp_fn rfl ?_
  unfold oldI
  cases e : at0 L i with
  | none =>
    have e : at0 L ((i : Nat) : Int).toNat = none := e
    walk_at "wp"
  | some x =>
    have e : at0 L ((i : Nat) : Int).toNat = some x := e
    walk_at "wp"
local macro_rules | `(tactic| walk_at "call") => `(tactic| (with_reducible show WR (p_oldest_kept _ _) _; with_reducible refine WR.eqv (oldest_wp (by first | assumption | decide) (by walk_at "om")) ?_))
/-! lists of whole numbers: == [] -/
theorem okds_get {ds : List D} {k : Nat} (h : ∀ d ∈ ds, okd d k = true) : okds ds k = true := by
  induction ds with
  | nil => rfl
  | cons d ds ih =>
    simp only [okds, Bool.and_eq_true]
    exact ⟨h d (List.mem_cons_self ..), ih fun x hx => h x (List.mem_cons_of_mem _ hx)⟩
theorem eqA_nil {ds : List D} {g : List Cell} (h : ∀ d ∈ ds, okd d 63 = true) : eqA (.lst ds) (.lst []) g = some (.bl (decide (ds = []))) := by
  have h1 : okd (.lst ds) 64 = true := by
    simp only [okd, okds_get h]
    rfl
  have hP : eqP (.lst ds) (.lst []) g = some (.bl (decide (ds = []))) := by
    unfold eqP
    rw [if_pos ⟨h1, rfl⟩]
    unfold eqd
    cases ds with
    | nil => rfl
    | cons d ds => rfl
  unfold eqA orF
  exact hP
theorem eq2_nil {ds : List D} {PB : Bool → List Cell → Prop} {g : List Cell} (h : ∀ d ∈ ds, okd d 63 = true) (k : Br (ds = []) PB g) : Eq2 (.lst ds) (.lst []) PB g := .inr ⟨_, eqA_nil h, k.dec⟩
theorem eq2_ints_nil {α : Type} {f : α → Int} {xs : List α} {PB : Bool → List Cell → Prop} {g : List Cell} (k : Br (xs = []) PB g) : Eq2 (.lst (xs.map fun i => .int (f i))) (.lst []) PB g :=
  eq2_nil (fun d hd => by obtain ⟨x, _, rfl⟩ := List.mem_map.mp hd; rfl) ⟨fun z => k.1 (List.map_eq_nil_iff.mp z), fun z => k.2 fun w => z (by rw [w]; rfl)⟩
local macro_rules | `(tactic| walk_at "ex") => `(tactic| with_reducible refine eq2_ints_nil ?_)
/-- the index that decides -/
def wIx (L : List Lf) (a : Int) : Nat := (least (en L a) L.length).getD (L.length - 1)
/-! guarantee (a), of the shortest tuple and of any -/
theorem idx_ints {ns : List Int} {w : Int} {j : Nat} (h : ns[j]? = some w) (k : ∀ m, m < j → ns[m]? ≠ some w) : (((ns.map D.int).map toV).findIdx? fun z => eqV z (toV (.int w))) = some j := by
  rw [List.findIdx?_eq_some_iff_getElem]
  have hj := (List.getElem?_eq_some_iff.mp h)
  refine ⟨by rw [List.length_map, List.length_map]; exact hj.1, ?_, fun m hm => ?_⟩
  · rw [List.getElem_map, List.getElem_map, hj.2]
    show (w == w) = true
    exact beq_self_eq_true w
  · rw [List.getElem_map, List.getElem_map]
    show ¬ (ns[m]'_ == w) = true
    intro z
    refine k m hm ?_
    rw [List.getElem?_eq_getElem (show m < ns.length by have := hj.1; omega)]
    exact congrArg some (eq_of_beq z)
def q_pool : List D → List Cell → R D := fnM 2 4 (seqS (asgS (ifV (boolM (opM ltD (seeM 1) (bltM lenF (consM (seeM 0) (nilM))))) (opM ixD (seeM 0) (seeM 1)) (opM addD (opM mulD (conM (.int 41)) (seeM 1)) (conM (.int 9)))) (tgN 2))
    (seqS (asgS (opM mulD (opM modD (bltM absF (consM (seeM 2) (nilM))) (conM (.int 1000000000000000000000000000000000000000000000000000000000000000000000000000000000000000000000000000000000000000000000000000000000000000000000000000000000000000000000000000000000000000000000000000000000000000000000000000000000000000000000000))) (bltM intF (consM (opM geD (bltM absF (consM (seeM 2) (nilM))) (conM (.int 1000000000000000000))) (nilM)))) (tgN 3))
    (retCell (fitM (consM (varM 3) (consM (opM modD (opM mulD (opM addD (opM addD (opM modD (seeM 2) (conM (.int 2305843009213693951))) (opM mulD (conM (.int 6113)) (seeM 1))) (conM (.int 57))) (conM (.int 16807))) (conM (.int 2147483399))) (consM (conM (.int 0)) (nilM))))))))
def q_draw : List D → List Cell → R D := fnM 2 6 (seqS (ifS (boolM (opM gtD (opM ixD (seeM 0) (conM (.int 0))) (conM (.int 0))))
    (seqS (asgS (opM modD (opM ixD (seeM 0) (conM (.int 0))) (seeM 1)) (tgN 5))
    (seqS (setS 0 (conM (.int 0)) (opM fdivD (opM ixD (seeM 0) (conM (.int 0))) (seeM 1)))
    (retS (varM 5))))
    (skipS))
    (seqS (setS 0 (conM (.int 2)) (opM addD (opM ixD (seeM 0) (conM (.int 2))) (conM (.int 1))))
    (seqS (asgS (opM ixD (seeM 0) (conM (.int 2))) (tgN 2))
    (seqS (asgS (opM ixD (valM (fitM (consM (conM (.int 2147483647)) (consM (conM (.int 2147483629)) (consM (conM (.int 2147483587)) (consM (conM (.int 2147483579)) (consM (conM (.int 2147483563)) (nilM)))))))) (opM modD (seeM 2) (conM (.int 5)))) (tgN 3))
    (seqS (asgS (opM modD (opM powD (opM addD (opM addD (opM ixD (seeM 0) (conM (.int 1))) (opM mulD (opM mulD (conM (.int 8123)) (seeM 2)) (seeM 2))) (opM mulD (conM (.int 41)) (seeM 2))) (conM (.int 3))) (seeM 3)) (tgN 4))
    (retS (opM modD (opM fdivD (opM modD (opM mulD (seeM 4) (opM addD (opM addD (opM modD (seeM 4) (conM (.int 1009))) (opM mulD (conM (.int 11)) (seeM 2))) (conM (.int 3)))) (seeM 3)) (conM (.int 17))) (seeM 1))))))))
def q_pickv : List D → List Cell → R D := fnM 2 2 (retS (opM ixD (seeM 1) (callM 2 q_draw (consM (varM 0) (consM (bltM lenF (consM (seeM 1) (nilM))) (nilM))))))
def q_livesv : List D → List Cell → R D := fnM 3 7 (seqS (parFS 4 5 (fitM (nilM)) (conM (.int 0)))
    (seqS (forS (rngIt (consM (opM addD (conM (.int 1)) (callM 2 q_draw (consM (varM 0) (consM (varM 2) (nilM))))) (nilM))) (tgN 3)
    (seqS (asgS (callM 2 q_pickv (consM (varM 0) (consM (valM (fitM (consM (conM (.int 0)) (consM (conM (.int 1)) (consM (conM (.int 2)) (consM (callM 2 q_draw (consM (varM 0) (consM (opM addD (seeM 1) (conM (.int 1))) (nilM)))) (consM (callM 2 q_draw (consM (varM 0) (consM (opM addD (seeM 1) (conM (.int 1))) (nilM)))) (nilM)))))))) (nilM)))) (tgN 6))
    (seqS (asgS (bltM minF (consM (conM (.int 1000000000000000000)) (consM (opM addD (seeM 5) (seeM 6)) (nilM)))) (tgN 5))
    (appendS 4 (varM 5)))))
    (seqS (ifS (boolM (opM eqA (callM 2 q_draw (consM (varM 0) (consM (conM (.int 6)) (nilM)))) (conM (.int 0))))
    (setS 4 (unM negD (conM (.int 1))) (conM .non))
    (skipS))
    (retS (bltM tupF (consM (seeM 4) (nilM)))))))
def q_life : List D → List Cell → R D := fnM 2 2 (retS (opM ixD (seeM 0) (bltM minF (consM (seeM 1) (consM (opM subD (bltM lenF (consM (seeM 0) (nilM))) (conM (.int 1))) (nilM))))))
def q_lesser : List D → List Cell → R D := fnM 2 2 (seqS (ifS (orB (boolM (opM isND (seeM 0) (conM .non))) (boolM (opM isND (seeM 1) (conM .non))))
    (retS (ifV (boolM (opM isND (seeM 0) (conM .non))) (varM 1) (varM 0)))
    (skipS))
    (retS (bltM minF (consM (seeM 0) (consM (seeM 1) (nilM))))))
def q_short : List D → List Cell → R D := fnM 1 1 (seqS (whL (andB (boolM (opM gtD (bltM lenF (consM (seeM 0) (nilM))) (conM (.int 1)))) (boolM (opM eqA (opM ixD (seeM 0) (unM negD (conM (.int 1)))) (opM ixD (seeM 0) (unM negD (conM (.int 2)))))))
    (asgS (slM (seeM 0) (noP) (atP (unM negD (conM (.int 1))))) (tgN 0)) 100000)
    (retS (varM 0)))
def q_led : List D → List Cell → R D := fnM 3 6 (seqS (ownS (fitM (nilM)) 3)
    (seqS (forS (rngIt (consM (bltM maxF (consM (bltM lenF (consM (seeM 0) (nilM))) (consM (bltM lenF (consM (seeM 1) (nilM))) (nilM)))) (nilM))) (tgN 4)
    (seqS (asgS (callM 2 q_life (consM (varM 0) (consM (varM 4) (nilM)))) (tgN 5))
    (appendS 3 (callM 2 q_lesser (consM (callM 2 q_life (consM (varM 1) (consM (varM 4) (nilM)))) (consM (ifV (boolM (opM isND (seeM 5) (conM .non))) (conM .non) (opM addD (seeM 5) (seeM 2))) (nilM)))))))
    (retS (callM 1 q_short (consM (bltM tupF (consM (seeM 3) (nilM))) (nilM))))))
/-! the pools of the laws k37 .. -/
def PotD (g : List Cell) (n B : Nat) : Prop := ∃ a b c : Int, g[n]? = some (.lst [.int a, .int b, .int c]) ∧ 0 ≤ a ∧ (0 ≤ b ∧ b < 2147483399) ∧ 0 ≤ c ∧ c + B ≤ 524288
theorem PotD.less {g : List Cell} {n B B' : Nat} (h : PotD g n B) (k : B' ≤ B) : PotD g n B' := by
  obtain ⟨a, b, c, h1, h2, h3, h4, h5⟩ := h
  exact ⟨a, b, c, h1, h2, h3, h4, by omega⟩
theorem set_last {L : List Lf} (h : 0 < L.length) : (L.map lfD).set (L.length - 1) .non = (L.take (L.length - 1) ++ [none]).map lfD := by
  rw [List.map_append, List.map_take]
  apply List.ext_getElem?
  intro i
  rw [List.getElem?_set, List.length_map]
  by_cases q : L.length - 1 = i
  · subst q
    rw [if_pos rfl, if_pos (by omega), List.getElem?_append_right (by rw [List.length_take, List.length_map]; omega), List.length_take, List.length_map, show L.length - 1 - min (L.length - 1) L.length = 0 by omega]
    rfl
  · rw [if_neg q]
    by_cases w : i < L.length - 1
    · rw [List.getElem?_append_left (by rw [List.length_take, List.length_map]; omega), List.getElem?_take_of_lt w]
    · rw [List.getElem?_append_right (by rw [List.length_take, List.length_map]; omega), List.getElem?_eq_none (by rw [List.length_map]; omega), List.getElem?_eq_none (by rw [List.length_take, List.length_map, List.length_map, List.length_singleton]; omega)]
local macro_rules | `(tactic| walk_at "lvs") => `(tactic| first | assumption | (with_reducible apply Given.toLives; assumption) | (with_reducible apply Rul.toLives; walk_at "rul"))

/-! Ch: family D: points one by one -/
def q_zerosv : List D → List Cell → R D := fnM 2 3 (seqS (asgS (conM (.int 0)) (tgN 2))
    (seqS (whL (andB (boolM (opM ltD (seeM 2) (seeM 1))) (boolM (opM eqA (opM modD (seeM 0) (conM (.int 2))) (conM (.int 0)))))
    (parS 0 2 (opM fdivD (seeM 0) (conM (.int 2))) (opM addD (seeM 2) (conM (.int 1)))) 100000)
    (retS (varM 2))))
def q_is_kept : List D → List Cell → R D := fnM 3 4 (seqS (asgS (callM 2 q_life (consM (varM 0) (consM (callM 2 q_zerosv (consM (varM 1) (consM (opM subD (bltM lenF (consM (seeM 0) (nilM))) (conM (.int 1))) (nilM)))) (nilM)))) (tgN 3))
    (retS (andV (opM leD (seeM 1) (seeM 2)) (orV (opM isND (seeM 3) (conM .non)) (opM ltD (opM subD (seeM 2) (seeM 1)) (seeM 3))))))
def q_points : List D → List Cell → R D := fnM 2 3 (retS (valM (lcM (rngIt (consM (opM addD (seeM 1) (conM (.int 1))) (nilM))) (tgN 2) (boolM (callM 3 q_is_kept (consM (varM 0) (consM (varM 2) (consM (varM 1) (nilM)))))) (varM 2) [2])))
def q_far : List D → List Cell → R D := fnM 3 5 (seqS (ownS (lcM (seqIt (varM 0)) (tgN 4) (boolM (opM geD (opM subD (seeM 1) (seeM 4)) (seeM 2))) (varM 4) [4]) 3)
    (retS (ifV (boolM (opM neA (seeM 3) (valM (fitM (nilM))))) (opM subD (opM subD (seeM 1) (opM ixD (seeM 3) (unM negD (conM (.int 1))))) (seeM 2)) (unM negD (conM (.int 1))))))
def keptN (L : List Lf) (t : Int) : List Nat := (List.range (t + 1).toNat).filter fun i => decide (Kp L t i)
theorem keptN_mem {L : List Lf} {t : Int} {i : Nat} : i ∈ keptN L t ↔ Kp L t i := by
  unfold keptN
  rw [List.mem_filter, List.mem_range, decide_eq_true_iff]
  exact ⟨fun h => h.2, fun h => ⟨by have := h.2.1; omega, h⟩⟩
def farI (L : List Lf) (t a : Int) : Int := match gapI L t a with
  | none => -1
  | some d => d
def q_livesvvv : List D → List Cell → R D := fnM 3 6 (seqS (parFS 4 5 (fitM (nilM)) (conM (.int 0)))
    (seqS (forS (rngIt (consM (opM addD (conM (.int 1)) (callM 2 q_draw (consM (varM 0) (consM (varM 2) (nilM))))) (nilM))) (tgN 3)
    (seqS (asgS (bltM minF (consM (conM (.int 1000000000000000000)) (consM (opM addD (seeM 5) (callM 2 q_pickv (consM (varM 0) (consM (valM (fitM (consM (conM (.int 0)) (consM (conM (.int 1)) (consM (conM (.int 2)) (consM (callM 2 q_draw (consM (varM 0) (consM (opM addD (seeM 1) (conM (.int 1))) (nilM)))) (consM (callM 2 q_draw (consM (varM 0) (consM (opM addD (seeM 1) (conM (.int 1))) (nilM)))) (nilM)))))))) (nilM))))) (nilM)))) (tgN 5))
    (appendS 4 (varM 5))))
    (seqS (ifS (boolM (opM eqA (callM 2 q_draw (consM (varM 0) (consM (conM (.int 6)) (nilM)))) (conM (.int 0))))
    (setS 4 (unM negD (conM (.int 1))) (conM .non))
    (skipS))
    (retS (bltM tupF (consM (seeM 4) (nilM)))))))
/-! Cj: all kept points, by the generator -/
def p_first_of : List D → List Cell → R D := fnM 3 5 (seqS (parS 3 4 (callM 3 p_oldest_kept (consM (varM 0) (consM (varM 1) (consM (varM 2) (nilM))))) (callM 1 p_size_of (consM (varM 2) (nilM))))
    (seqS (ifS (boolM (opM eqA (seeM 2) (opM subD (ruLen p_Rule_len (consM (varM 0) (nilM))) (conM (.int 1)))))
    (retS (opM addD (seeM 3) (opM modD (unM negD (seeM 3)) (seeM 4))))
    (skipS))
    (retS (opM addD (seeM 3) (opM modD (opM subD (seeM 4) (seeM 3)) (opM mulD (conM (.int 2)) (seeM 4)))))))
def p_gap_of : List D → List Cell → R D := fnM 2 2 (retS (ifV (boolM (opM eqA (seeM 1) (opM subD (ruLen p_Rule_len (consM (varM 0) (nilM))) (conM (.int 1))))) (callM 1 p_size_of (consM (varM 1) (nilM))) (opM mulD (conM (.int 2)) (callM 1 p_size_of (consM (varM 1) (nilM))))))
def p_kept : List D → List Cell → R (List D) := genF 2 4 (seqG (plG (sameS (ownS (lcM (rngIt (consM (ruLen p_Rule_len (consM (varM 0) (nilM))) (nilM))) (tgN 3) (yesB) (callM 3 p_first_of (consM (varM 0) (consM (varM 1) (consM (varM 3) (nilM))))) [3]) 2)))
    (seqG (whG (sameB (boolM (opM leD (bltM minF (consM (seeM 2) (nilM))) (seeM 1))))
    (seqG (plG (sameS (asgS (idxM (seeM 2) (bltM minF (consM (seeM 2) (nilM)))) (tgN 3))))
    (seqG (yldG (sameM (opM ixD (seeM 2) (seeM 3))))
    (seqG (plG (sameS (augIS 2 (varM 3) (callM 2 p_gap_of (consM (varM 0) (consM (varM 3) (nilM)))))))
    (skipG)))) 100000)
    (skipG)))
def perI (n i : Nat) : Int := if i + 1 = n then 2 ^ i else 2 * 2 ^ i
def offI (n i : Nat) : Int := if i + 1 = n then 0 else 2 ^ i
theorem per_pos (n i : Nat) : 0 < perI n i := by
  have := pw_pos i
  unfold perI
  split <;> omega
theorem off_lt (n i : Nat) : 0 ≤ offI n i ∧ offI n i < perI n i := by
  have := pw_pos i
  unfold perI offI
  split <;> omega
theorem cap_off {n i : Nat} {p : Int} (hi : i < n) : cap (n - 1) p = i ↔ p % perI n i = offI n i := by
  unfold perI offI
  split
  · rename_i q
    rw [show i = n - 1 by omega]
    exact cap_last
  · rename_i q
    exact cap_rank (by omega)
/-- the least point of an index from m and lo on -/
structure Nx (n : Nat) (b : Int) (i : Nat) (m a : Int) : Prop where
  ge : m ≤ a
  lo : b ≤ a
  cls : cap (n - 1) a = i
  least : ∀ p : Int, m ≤ p → b ≤ p → cap (n - 1) p = i → a ≤ p
theorem Nx.first {n i : Nat} {lo : Int} (hi : i < n) (h0 : 0 ≤ lo) : Nx n lo i 0 (lo + (offI n i - lo) % perI n i) := by
  have hp := per_pos n i
  have ho := off_lt n i
  have r0 := Int.emod_nonneg (offI n i - lo) (show perI n i ≠ 0 by omega)
  have r1 := Int.emod_lt_of_pos (offI n i - lo) hp
  have hm : (lo + (offI n i - lo) % perI n i) % perI n i = offI n i := by
    have := Int.emod_add_mul_ediv (offI n i - lo) (perI n i)
    rw [show lo + (offI n i - lo) % perI n i = offI n i + perI n i * -((offI n i - lo) / perI n i) by rw [Int.mul_neg]; omega, Int.add_mul_emod_self_left]
    exact Int.emod_eq_of_lt ho.1 ho.2
  refine ⟨by omega, by omega, (cap_off hi).mpr hm, fun p _ h2 h3 => ?_⟩
  apply Int.le_of_not_gt
  intro z
  have := mod_gap hp ((cap_off hi).mp h3) hm z
  omega
theorem Nx.next {n i : Nat} {lo m a : Int} (hi : i < n) (h : Nx n lo i m a) : Nx n lo i (a + 1) (a + perI n i) := by
  have hp := per_pos n i
  have hm := (cap_off hi).mp h.cls
  have h1 := h.lo
  refine ⟨by omega, by omega, (cap_off hi).mpr ?_, fun p h2 _ h3 => mod_gap hp hm ((cap_off hi).mp h3) (by omega)⟩
  rw [show a + perI n i = a + perI n i * 1 by rw [Int.mul_one], Int.add_mul_emod_self_left]
  exact hm
theorem Nx.later {n i : Nat} {lo m m' a : Int} (h : Nx n lo i m a) (h1 : m ≤ m') (h2 : m' ≤ a) : Nx n lo i m' a := ⟨h2, h.lo, h.cls, fun p h3 h4 h5 => h.least p (by omega) h4 h5⟩
theorem oldI_nn (L : List Lf) (t : Int) (i : Nat) : 0 ≤ oldI L t i := by
  unfold oldI
  split <;> omega
theorem first_of_wp {g : List Cell} {c : Nat} {L : List Lf} {t : Int} {i : Nat} (hc : c < 2) (hi : i < L.length) (hl : L.length ≤ 61) : WR (p_first_of [ruD c L, .int t, .int (i : Nat)] g) fun d g' => g' = g ∧ d = .int (oldI L t i + (offI L.length i - oldI L t i) % perI L.length i) := by
  refine wp_fn rfl ?_
  unfold offI perI
  have p0 := pw_pos i
  by_cases q : i + 1 = L.length
  · rw [if_pos q, if_pos q]
    walk_at "wp"
    rw [Int.zero_sub]
  · rw [if_neg q, if_neg q]
    walk_at "wp"
local macro_rules | `(tactic| walk_at "call") => `(tactic| (with_reducible show WR (p_first_of _ _) _; with_reducible refine WR.eqv (first_of_wp (by first | assumption | decide) (by walk_at "om") (by walk_at "om")) ?_))
theorem gap_of_wp {g : List Cell} {c : Nat} {L : List Lf} {i : Nat} (hc : c < 2) (hi : i < L.length) (hl : L.length ≤ 61) : WR (p_gap_of [ruD c L, .int (i : Nat)] g) fun d g' => g' = g ∧ d = .int (perI L.length i) := by
  refine wp_fn rfl ?_
  unfold perI
  by_cases q : i + 1 = L.length
  · rw [if_pos q]
    walk_at "wp"
  · rw [if_neg q]
    walk_at "wp"
local macro_rules | `(tactic| walk_at "call") => `(tactic| (with_reducible show WR (p_gap_of _ _) _; with_reducible refine WR.eqv (gap_of_wp (by first | assumption | decide) (by walk_at "om") (by walk_at "om")) ?_))
theorem first_ix {ns : List Int} {w : Int} (h : w ∈ ns) : ∃ j, ns[j]? = some w ∧ ∀ m : Nat, m < j → ns[m]? ≠ some w := by
  induction ns with
  | nil => cases h
  | cons x xs ih =>
    by_cases q : x = w
    · exact ⟨0, by rw [q]; rfl, fun m hm => absurd hm (Nat.not_lt_zero _)⟩
    · obtain ⟨j, h1, h2⟩ := ih ((List.mem_cons.mp h).resolve_left fun z => q z.symm)
      refine ⟨j + 1, h1, fun m hm => ?_⟩
      cases m with
      | zero => exact fun z => q (Option.some.inj z)
      | succ m => exact h2 m (by omega)
theorem min_of {ns : List Int} (g : List Cell) (h : ns ≠ []) : ∃ f, minF [.lst (ns.map .int)] g = some (.int f) ∧ f ∈ ns ∧ ∀ y ∈ ns, f ≤ y := by
  cases ns with
  | nil => exact absurd rfl h
  | cons n ns =>
    obtain ⟨h1, h2⟩ := minI_le ns n
    refine ⟨minI n ns, by unfold minF; simp only [intsOf_map], ?_, fun y hy => ?_⟩
    · rcases minI_mem ns n with q | q
      · rw [q]; exact List.mem_cons_self ..
      · exact List.mem_cons_of_mem _ q
    · rcases List.mem_cons.mp hy with q | q
      · rw [q]; exact h1
      · exact h2 y q
theorem range_skip {P : Nat → Bool} {m : Nat} : ∀ {w : Nat}, m ≤ w → (∀ p, m ≤ p → p < w → P p = false) → (List.range w).filter P = (List.range m).filter P
  | 0, h, _ => by rw [show m = 0 by omega]
  | w + 1, h, k => by
    by_cases q : m = w + 1
    · rw [q]
    · rw [List.range_succ, List.filter_append, range_skip (show m ≤ w by omega) fun p h1 h2 => k p h1 (by omega)]
      rw [List.filter_cons, k w (by omega) (by omega)]
      simp
theorem range_to {P : Nat → Bool} {m w : Nat} (h : m ≤ w) (k : ∀ p, m ≤ p → p < w → P p = false) (hw : P w = true) : (List.range (w + 1)).filter P = (List.range m).filter P ++ [w] := by
  rw [List.range_succ, List.filter_append, range_skip h k, List.filter_cons, hw]
  rfl
theorem ints_flat (ns : List Nat) : (ns.map fun i => D.int (i : Nat)).all flatD = true := by
  rw [List.all_map]
  exact List.all_eq_true.mpr fun _ _ => rfl
theorem intl_flat (ns : List Int) : (ns.map D.int).all flatD = true := by
  rw [List.all_map]
  exact List.all_eq_true.mpr fun _ _ => rfl
theorem ixD_ints {ns : List Int} {j : Nat} {w : Int} {g : List Cell} (h : ns[j]? = some w) : ixD (.lst (ns.map D.int)) (.int (j : Nat)) g = some (.int w) := atI_map (f := D.int) (by omega) (by rw [Int.toNat_natCast]; exact h)
theorem kl_small {L : List Lf} {t : Int} (h : t ≤ 98999) : (keptN L t).length ≤ 99000 := by
  have := List.length_filter_le (fun i => decide (Kp L t (i : Nat))) (List.range (t + 1).toNat)
  rw [List.length_range] at this
  unfold keptN
  omega
theorem range_part {P : Nat → Bool} {m n : Nat} (h : m ≤ n) : ((List.range m).filter P).length ≤ ((List.range n).filter P).length := ((List.range_sublist.mpr h).filter P).length_le
theorem kept_wp {g : List Cell} {c : Nat} {L : List Lf} {t : Int} (hc : c < 2) (h1 : 0 < L.length) (h2 : L.length ≤ 61) (t0 : 0 ≤ t) (t1 : (keptN L t).length ≤ 99000) : WR (p_kept [ruD c L, .int t] g) fun ys g' => g' = g ∧ ys = (keptN L t).map fun i => .int (i : Nat) := by
  refine wg_fn rfl ?_
  refine wg_seq (wg_plain ?_)
  walk_at "wp"
  refine lcMap (α := Nat) (f := fun i => .int (0 + (i : Int))) (fun i => .int (oldI L t i + (offI L.length i - oldI L t i) % perI L.length i)) ?_ ?_
  · intro i x hx
    have hx := List.mem_range.mp (List.mem_of_getElem? hx)
    have hx : x < L.length := by omega
    refine ⟨_, rfl, ?_⟩
    show WR (callM 3 p_first_of _ [.v (ruD c L), .v (.int t), _, .v (.int (0 + (x : Int)))] _) _
    rw [Int.zero_add]
    walk_at "wp"
  · refine ⟨rfl, ?_⟩
    show WG _ _
    obtain ⟨ns0, e0, l0, n0⟩ : ∃ ns : List Int, (List.range L.length).map (fun i => D.int (oldI L t i + (offI L.length i - oldI L t i) % perI L.length i)) = ns.map D.int ∧ ns.length = L.length ∧ ∀ i a, ns[i]? = some a → Nx L.length (oldI L t i) i 0 a := by
      refine ⟨(List.range L.length).map fun i => oldI L t i + (offI L.length i - oldI L t i) % perI L.length i, by rw [List.map_map]; rfl, by rw [List.length_map, List.length_range], fun i a h => ?_⟩
      rw [List.getElem?_map] at h
      by_cases hi : i < L.length
      · rw [List.getElem?_range hi] at h
        cases h
        exact Nx.first hi (oldI_nn L t i)
      · rw [List.getElem?_eq_none (by rw [List.length_range]; omega)] at h
        cases h
    walk_at "wp"
    rw [Int.toNat_natCast, e0]
    refine wg_seq (wg_wh (fun k e ys g' => g' = g ∧ ∃ (ns : List Int) (m : Nat) (x : Ev.Slot), e = [.v (ruD c L), .v (.int t), .own (ns.map D.int), x] ∧ ns.length = L.length ∧ (∀ i a, ns[i]? = some a → Nx L.length (oldI L t i) i m a) ∧ (m : Int) ≤ t + 1 ∧ ys = ((List.range m).filter fun i => decide (Kp L t (i : Nat))).map (fun i => D.int (i : Nat)) ∧ k = (keptN L t).length - ys.length) (k := (keptN L t).length) (by omega) ⟨rfl, ns0, 0, _, rfl, l0, n0, by omega, rfl, rfl⟩ ?_)
    rintro k e ys g1 ⟨e1, ns, m, x, rfl, hl, hn, hm, rfl, hk⟩
    subst e1
    obtain ⟨w, w1, w2, w3⟩ := min_of (ns := ns) g1 (fun z => by rw [z] at hl; simp at hl; omega)
    obtain ⟨j, j1, j2⟩ := first_ix w2
    have hj := (List.getElem?_eq_some_iff.mp j1).1
    have hx := hn j w j1
    have hge := hx.ge
    -- no kept point ahead of w
    have none : ∀ p : Int, m ≤ p → p < w → ¬ Kp L t p := fun p p1 p2 hp => by
      have hc := cap_le (L.length - 1) p
      obtain ⟨a, ha⟩ : ∃ a, ns[cap (L.length - 1) p]? = some a := ⟨_, List.getElem?_eq_getElem (by omega)⟩
      have h3 := (hn _ a ha).least p p1 ((oldI_le hp.1).mpr hp.2.2) rfl
      have := w3 a (List.mem_of_getElem? ha)
      omega
    have hfl := intl_flat ns
    walk_at "wp"
    refine ⟨_, w1, ?_⟩
    walk_at "wp"
    · rename_i hwt
      have hlen : (((List.range m).filter fun i => decide (Kp L t (i : Nat))).map fun i => D.int (i : Nat)).length ≤ (keptN L t).length := by
        rw [List.length_map]
        exact range_part (by omega)
      refine wg_seq (wg_plain ?_)
      walk_at "wp"
      refine ⟨_, w1, j, ⟨⟨rfl, hfl⟩, idx_ints j1 j2⟩, ?_⟩
      walk_at "wp"
      refine wg_seq (wg_yield ?_)
      walk_at "wp"
      refine ⟨_, ixD_ints j1, rfl, ⟨rfl, by omega⟩, ?_⟩
      refine wg_seq (wg_plain ?_)
      walk_at "wp"
      refine ⟨(j : Nat), w, rfl, by omega, by rw [Int.toNat_natCast, List.getElem?_map, j1]; rfl, ?_⟩
      walk_at "wp"
      have hkw : Kp L t w := ⟨by omega, hwt, by
        have := (oldI_le (L := L) (t := t) (p := w) (i := j) (by omega)).mp hx.lo
        unfold lfp
        rw [hx.cls]
        exact this⟩
      have hto := range_to (P := fun i => decide (Kp L t (i : Nat))) (show m ≤ w.toNat by omega) (fun p p1 p2 => decide_eq_false (none p (by omega) (by omega))) (decide_eq_true (by rw [Int.toNat_of_nonneg (by omega)]; exact hkw))
      have hlen2 : ((List.range m).filter fun i => decide (Kp L t (i : Nat))).length + 1 ≤ (keptN L t).length := by
        have h5 := range_part (P := fun i => decide (Kp L t (i : Nat))) (show w.toNat + 1 ≤ (t + 1).toNat by omega)
        rw [hto, List.length_append] at h5
        exact h5
      refine ⟨_, ?_, rfl, ns.set j (w + perI L.length j), w.toNat + 1, .v (.int (j : Nat)), ?_, by rw [List.length_set, hl], fun i a ha => ?_, by omega, ?_, rfl⟩
      · rw [hk, List.length_append, List.length_map]
        show _ - (_ + 1) < (keptN L t).length - _
        omega
      · rw [Int.toNat_natCast, ← List.map_set]
        rfl
      · rw [show ((w.toNat + 1 : Nat) : Int) = w + 1 by omega]
        by_cases q : i = j
        · subst q
          rw [List.getElem?_set_self hj] at ha
          cases ha
          exact hx.next (by omega)
        · rw [List.getElem?_set_ne (fun z => q z.symm)] at ha
          have hi := hn i a ha
          have h4 := w3 a (List.mem_of_getElem? ha)
          have h5 : a ≠ w := fun z => by
            subst z
            exact q (hi.cls.symm.trans hx.cls)
          exact hi.later (by omega) (by omega)
      · rw [hto, List.map_append]
        show _ ++ [D.int w] = _ ++ [D.int (w.toNat : Nat)]
        rw [Int.toNat_of_nonneg (by omega)]
    · rename_i hwt
      refine wg_skip ⟨ints_flat _, rfl, ?_⟩
      unfold keptN
      rw [range_skip (P := fun i => decide (Kp L t (i : Nat))) (show m ≤ (t + 1).toNat by omega) (fun p p1 p2 => decide_eq_false (none p (by omega) (by omega)))]
theorem keptN_short {L : List Lf} (h : 0 < L.length) (t : Int) : keptN (short L) t = keptN L t := by
  unfold keptN
  congr 1
  funext i
  exact decide_eq_decide.mpr (Kp_short h)
theorem kept_short {g : List Cell} {c : Nat} {L : List Lf} {t : Int} (hc : c < 2) (h1 : 0 < L.length) (h2 : L.length ≤ 61) (t0 : 0 ≤ t) (t1 : (keptN L t).length ≤ 99000) : WR (p_kept [ruD c (short L), .int t] g) fun ys g' => g' = g ∧ ys = (keptN L t).map fun i => .int (i : Nat) := by
  have s1 := short_pos h1
  have s2 := short_le L
  have := kept_wp (g := g) (t := t) hc s1 (by omega) t0 (by rw [keptN_short h1]; exact t1)
  rwa [keptN_short h1] at this
theorem kept_go {g : List Cell} {c : Nat} {L : List Lf} {t : Int} {P : List D → List Cell → Prop} (hc : c < 2) (h1 : 0 < L.length) (h2 : L.length ≤ 61) (t0 : 0 ≤ t) (t1 : (keptN L t).length ≤ 99000) (h : P ((keptN L t).map fun i => .int (i : Nat)) g) : WR (p_kept [ruD c L, .int t] g) fun ys g2 => ys.all flatD = true ∧ P ys g2 :=
  (kept_wp hc h1 h2 t0 t1).mono fun ys g2 ⟨e1, e2⟩ => by
    subst e1 e2
    exact ⟨ints_flat _, h⟩
local macro_rules | `(tactic| walk_at "call") => `(tactic| with_reducible refine kept_go (by first | assumption | decide) (by walk_at "om") (by walk_at "om") (by walk_at "om") (by first | assumption | exact kl_small (by walk_at "om")) ?_)
theorem kept_go_short {g : List Cell} {c : Nat} {L : List Lf} {t : Int} {P : List D → List Cell → Prop} (hc : c < 2) (h1 : 0 < L.length) (h2 : L.length ≤ 61) (t0 : 0 ≤ t) (t1 : (keptN L t).length ≤ 99000) (h : P ((keptN L t).map fun i => .int (i : Nat)) g) : WR (p_kept [ruD c (short L), .int t] g) fun ys g2 => ys.all flatD = true ∧ P ys g2 :=
  (kept_short hc h1 h2 t0 t1).mono fun ys g2 ⟨e1, e2⟩ => by
    subst e1 e2
    exact ⟨ints_flat _, h⟩
local macro_rules | `(tactic| walk_at "call") => `(tactic| with_reducible refine kept_go_short (by first | assumption | decide) (by walk_at "om") (by walk_at "om") (by walk_at "om") (by first | assumption | exact kl_small (by walk_at "om")) ?_)
theorem noGs_map {α : Type} (f : α → D) (h : ∀ a, noG (f a) = true) : ∀ xs : List α, noGs (xs.map f) = true
  | [] => rfl
  | x :: xs => by
    show (noG (f x) && noGs (xs.map f)) = true
    rw [h, noGs_map f h xs]
    rfl
theorem noG_lv (L : List Lf) : noG (lvD L) = true := noGs_map _ (fun a => by cases a <;> rfl) L
theorem kept_out {c : Nat} {L : List Lf} {t : Int} (hc : c < 2) (h1 : 0 < L.length) (h2 : L.length ≤ 61) (t0 : 0 ≤ t) (t1 : (keptN L t).length ≤ 99000) : GenOut p_kept [ruD c L, .int t] ((keptN L t).map fun i => .int (i : Nat)) := by
  refine ⟨?_, ?_⟩
  · show (noG (lvD L) && (true && true)) = true
    rw [noG_lv]
    rfl
  · have h := kept_wp (g := []) hc h1 h2 t0 t1
    cases q : p_kept [ruD c L, .int t] [] with
    | ok a g =>
      rw [q] at h
      have h : g = [] ∧ a = _ := h
      rw [h.1, h.2]
    | ex _ _ _ => rw [q] at h; exact h.elim
    | bad => rw [q] at h; exact h.elim
theorem kept_ex {c : Nat} {L : List Lf} {t : Int} {P : List D → Prop} (hc : c < 2) (h1 : 0 < L.length) (h2 : L.length ≤ 61) (t0 : 0 ≤ t) (t1 : (keptN L t).length ≤ 99000) (h : P ((keptN L t).map fun i => .int (i : Nat))) : ∃ T, GenOut p_kept [ruD c L, .int t] T ∧ P T := ⟨_, kept_out hc h1 h2 t0 t1, h⟩
local macro_rules | `(tactic| walk_at "ex") => `(tactic| with_reducible refine kept_ex (by first | assumption | decide) (by walk_at "om") (by walk_at "om") (by walk_at "om") (by first | assumption | exact kl_small (by walk_at "om")) ?_)
theorem kept_ex_short {c : Nat} {L : List Lf} {t : Int} {P : List D → Prop} (hc : c < 2) (h1 : 0 < L.length) (h2 : L.length ≤ 61) (t0 : 0 ≤ t) (t1 : (keptN L t).length ≤ 99000) (h : P ((keptN L t).map fun i => .int (i : Nat))) : ∃ T, GenOut p_kept [ruD c (short L), .int t] T ∧ P T := by
  have s1 := short_pos h1
  have s2 := short_le L
  have := kept_out (t := t) hc s1 (by omega) t0 (by rw [keptN_short h1]; exact t1)
  rw [keptN_short h1] at this
  exact ⟨_, this, h⟩
local macro_rules | `(tactic| walk_at "ex") => `(tactic| with_reducible refine kept_ex_short (by first | assumption | decide) (by walk_at "om") (by walk_at "om") (by walk_at "om") (by first | assumption | exact kl_small (by walk_at "om")) ?_)

def q_pot : List D → List Cell → R D := fnM 2 4 (seqS (asgS (ifV (boolM (opM ltD (seeM 1) (bltM lenF (consM (seeM 0) (nilM))))) (opM ixD (seeM 0) (seeM 1)) (opM addD (opM mulD (conM (.int 17)) (seeM 1)) (conM (.int 3)))) (tgN 2))
    (seqS (asgS (ifV (boolM (opM geD (bltM absF (consM (seeM 2) (nilM))) (conM (.int 1000000000000000000)))) (opM modD (bltM absF (consM (seeM 2) (nilM))) (conM (.int 1000000000000000000000000000000000000000000000000000000000000000000000000000000000000000000000000000000000000000000000000000000000000000000000000000000000000000000000000000000000000))) (conM (.int 0))) (tgN 3))
    (retCell (fitM (consM (varM 3) (consM (opM modD (opM addD (opM addD (opM mulD (opM modD (seeM 2) (conM (.int 2305843009213693951))) (conM (.int 69621))) (opM mulD (opM mulD (conM (.int 104729)) (seeM 1)) (seeM 1))) (conM (.int 71))) (conM (.int 2305843009213693921))) (consM (conM (.int 0)) (nilM))))))))
def q_take : List D → List Cell → R D := fnM 2 5 (seqS (ifS (boolM (opM gtD (opM ixD (seeM 0) (conM (.int 0))) (conM (.int 0))))
    (seqS (asgS (opM modD (opM ixD (seeM 0) (conM (.int 0))) (seeM 1)) (tgN 4))
    (seqS (setS 0 (conM (.int 0)) (opM fdivD (opM ixD (seeM 0) (conM (.int 0))) (seeM 1)))
    (retS (varM 4))))
    (skipS))
    (seqS (setS 0 (conM (.int 2)) (opM addD (opM ixD (seeM 0) (conM (.int 2))) (conM (.int 1))))
    (seqS (asgS (opM ixD (valM (fitM (consM (conM (.int 2147483647)) (consM (conM (.int 2147483629)) (consM (conM (.int 2147483587)) (consM (conM (.int 2147483579)) (consM (conM (.int 2147483563)) (nilM)))))))) (opM modD (opM ixD (seeM 0) (conM (.int 2))) (conM (.int 5)))) (tgN 2))
    (seqS (asgS (opM modD (opM powD (opM addD (opM addD (opM ixD (seeM 0) (conM (.int 1))) (opM mulD (opM mulD (conM (.int 40009)) (opM ixD (seeM 0) (conM (.int 2)))) (opM ixD (seeM 0) (conM (.int 2))))) (conM (.int 31))) (conM (.int 3))) (seeM 2)) (tgN 3))
    (retS (opM modD (opM fdivD (opM modD (opM mulD (seeM 3) (opM addD (opM modD (seeM 3) (conM (.int 10009))) (opM mulD (conM (.int 89)) (opM ixD (seeM 0) (conM (.int 2)))))) (conM (.int 2305843009213693907))) (conM (.int 89))) (seeM 1)))))))
def q_pick : List D → List Cell → R D := fnM 2 2 (retS (opM ixD (seeM 1) (callM 2 q_take (consM (varM 0) (consM (bltM lenF (consM (seeM 1) (nilM))) (nilM))))))
def q_zeros : List D → List Cell → R D := fnM 1 2 (seqS (asgS (conM (.int 0)) (tgN 1))
    (seqS (whL (andB (boolM (opM gtD (seeM 0) (conM (.int 0)))) (boolM (opM eqA (opM modD (seeM 0) (conM (.int 2))) (conM (.int 0)))))
    (parS 0 1 (opM fdivD (seeM 0) (conM (.int 2))) (opM addD (seeM 1) (conM (.int 1)))) 100000)
    (retS (ifV (boolM (opM gtD (seeM 0) (conM (.int 0)))) (varM 1) (conM (.int 1000))))))

/-- a pot that has B draws left at least -/
def Pot (g : List Cell) (n B : Nat) : Prop := ∃ a b c : Int, g[n]? = some (.lst [.int a, .int b, .int c]) ∧ 0 ≤ a ∧ (0 ≤ b ∧ b < 2305843009213693951) ∧ 0 ≤ c ∧ c + B ≤ 4194304
def But (n : Nat) (g g' : List Cell) : Prop := g'.length = g.length ∧ ∀ m, m ≠ n → g'[m]? = g[m]?
theorem But.refl (n : Nat) (g : List Cell) : But n g g := ⟨rfl, fun _ _ => rfl⟩
theorem But.trans {n : Nat} {g g1 g2 : List Cell} (h : But n g g1) (k : But n g1 g2) : But n g g2 := ⟨k.1.trans h.1, fun m hm => (k.2 m hm).trans (h.2 m hm)⟩
theorem But.set (n : Nat) (g : List Cell) (c : Cell) : But n g (g.set n c) := ⟨List.length_set .., fun m hm => List.getElem?_set_ne (fun z => hm z.symm)⟩
theorem Pot.less {g : List Cell} {n B B' : Nat} (h : Pot g n B) (k : B' ≤ B) : Pot g n B' := by
  obtain ⟨a, b, c, h1, h2, h3, h4, h5⟩ := h
  exact ⟨a, b, c, h1, h2, h3, h4, by omega⟩
theorem Pot.but {g g' : List Cell} {n m B : Nat} (h : Pot g n B) (k : But m g g') (hm : n ≠ m) : Pot g' n B := by
  obtain ⟨a, b, c, h1, h2⟩ := h
  exact ⟨a, b, c, by rw [k.2 n hm]; exact h1, h2⟩
/-- how many zeros stand at the end -/
def tz (p : Nat) : Nat := if h : 0 < p ∧ p % 2 = 0 then tz (p / 2) + 1 else 0
theorem tz_spec (p : Nat) (h : 0 < p) : ∃ m, p = (2 * m + 1) * 2 ^ tz p := by
  induction p using tz.induct with
  | case1 p hp ih =>
    obtain ⟨m, hm⟩ := ih (by omega)
    refine ⟨m, ?_⟩
    rw [tz, dif_pos hp, Nat.pow_succ, ← Nat.mul_assoc, ← hm]
    omega
  | case2 p hp => exact ⟨p / 2, by rw [tz, dif_neg hp]; omega⟩
theorem tz_lt {p n : Nat} (h : 0 < p) (k : p < 2 ^ n) : tz p < n := by
  obtain ⟨m, hm⟩ := tz_spec p h
  apply Nat.lt_of_not_le
  intro q
  have := Nat.pow_le_pow_right (show 2 > 0 by decide) q
  have : 2 ^ tz p ≤ (2 * m + 1) * 2 ^ tz p := Nat.le_mul_of_pos_left _ (by omega)
  omega
theorem tz_even {p : Nat} (h : 0 < p) (k : p % 2 = 0) : tz p = tz (p / 2) + 1 := by rw [tz, dif_pos ⟨h, k⟩]
theorem tz_odd {p : Nat} (k : p % 2 ≠ 0) : tz p = 0 := by rw [tz, dif_neg fun z => k z.2]
/-! Cn: counts of kept points -/
def p_multiples : List D → List Cell → R D := fnM 3 3 (retS (bltM maxF (consM (conM (.int 0)) (consM (opM subD (opM fdivD (seeM 1) (seeM 2)) (opM fdivD (opM subD (seeM 0) (conM (.int 1))) (seeM 2))) (nilM)))))
def p_ranked_up_to : List D → List Cell → R D := fnM 2 3 (seqS (asgS (callM 1 p_size_of (consM (varM 1) (nilM))) (tgN 2))
    (retS (ifV (boolM (opM gtD (seeM 0) (conM (.int 0)))) (opM fdivD (opM addD (seeM 0) (seeM 2)) (opM mulD (conM (.int 2)) (seeM 2))) (conM (.int 0)))))
def p_ranked : List D → List Cell → R D := fnM 3 3 (retS (bltM maxF (consM (conM (.int 0)) (consM (opM subD (callM 2 p_ranked_up_to (consM (varM 1) (consM (varM 2) (nilM)))) (callM 2 p_ranked_up_to (consM (opM subD (seeM 0) (conM (.int 1))) (consM (varM 2) (nilM))))) (nilM)))))
def p_kept_between : List D → List Cell → R D := fnM 4 8 (seqS (asgS (conM (.int 0)) (tgN 4))
    (seqS (forS (rngIt (consM (ruLen p_Rule_len (consM (varM 0) (nilM))) (nilM))) (tgN 5)
    (seqS (parS 6 7 (bltM maxF (consM (seeM 2) (consM (callM 3 p_oldest_kept (consM (varM 0) (consM (varM 1) (consM (varM 5) (nilM))))) (nilM)))) (bltM minF (consM (seeM 3) (consM (seeM 1) (nilM)))))
    (ifS (boolM (opM eqA (seeM 5) (opM subD (ruLen p_Rule_len (consM (varM 0) (nilM))) (conM (.int 1)))))
    (augS (onI0 fun i j => .int (i + j)) 4 (callM 3 p_multiples (consM (varM 6) (consM (varM 7) (consM (callM 1 p_size_of (consM (varM 5) (nilM))) (nilM))))))
    (augS (onI0 fun i j => .int (i + j)) 4 (callM 3 p_ranked (consM (varM 6) (consM (varM 7) (consM (varM 5) (nilM)))))))))
    (retS (varM 4))))
def p_kept_count : List D → List Cell → R D := fnM 2 2 (retS (callM 4 p_kept_between (consM (varM 0) (consM (varM 1) (consM (conM (.int 0)) (consM (varM 1) (nilM)))))))
theorem p_multiples_wp {g : List Cell} {lo hi s : Int} (h0 : 0 < s) (h1 : s < 18446744073709551616) : WR (p_multiples [.int lo, .int hi, .int s] g) fun d g' => g' = g ∧ d = .int (cnt (mulP s) lo hi) := by
  rw [cnt_mul h0]
  refine wp_fn rfl ?_
  walk_at "wp"
local macro_rules | `(tactic| walk_at "call") => `(tactic| (with_reducible show WR (p_multiples _ _) _; with_reducible refine WR.eqv (p_multiples_wp (by walk_at "om") (by walk_at "om")) ?_))
theorem up_to_wp {g : List Cell} {x : Int} {i : Nat} (hi : i ≤ 63) : WR (p_ranked_up_to [.int x, .int (i : Nat)] g) fun d g' => g' = g ∧ d = .int (upI x i) := by
  have w1 := pow_pos' i
  have w2 := pow_le (a := i) (b := 63) (by omega)
  have w3 : (2 : Int) ^ 63 = 9223372036854775808 := by decide
  refine wp_fn rfl ?_
  unfold upI
  walk_at "wp"
  · rename_i q
    rw [if_pos q]
  · rename_i q
    rw [if_neg q]
local macro_rules | `(tactic| walk_at "call") => `(tactic| (with_reducible show WR (p_ranked_up_to _ _) _; with_reducible refine WR.eqv (up_to_wp (by walk_at "om")) ?_))
theorem ranked_wp {g : List Cell} {lo hi : Int} {i : Nat} (hi' : i ≤ 63) (h0 : 0 ≤ lo) : WR (p_ranked [.int lo, .int hi, .int (i : Nat)] g) fun d g' => g' = g ∧ d = .int (cnt (rnkP i) lo hi) := by
  rw [cnt_rnk h0]
  refine wp_fn rfl ?_
  walk_at "wp"
local macro_rules | `(tactic| walk_at "call") => `(tactic| (with_reducible show WR (p_ranked _ _) _; with_reducible refine WR.eqv (ranked_wp (by walk_at "om") (by walk_at "om")) ?_))
theorem kept_between_wp {g : List Cell} {c : Nat} {L : List Lf} {t lo hi : Int} (hc : c < 2) (h1 : 0 < L.length) (h2 : L.length ≤ 61) (h0 : 0 ≤ lo) : WR (p_kept_between [ruD c L, .int t, .int lo, .int hi] g) fun d g' => g' = g ∧ d = .int (cntK L t lo hi) := by
  rw [cntK_sum h1 h0]
  refine wp_fn rfl ?_
  walk_at "wp"
  refine wp_forL (fun i e g' => g' = g ∧ ∃ a b d, e = [.v (ruD c L), .v (.int t), .v (.int lo), .v (.int hi), .v (.int (sumTo (fun i => cnt (clsP L.length i) (max lo (oldI L t i)) (min hi t)) i)), a, b, d]) ⟨rfl, _, _, _, rfl⟩ ?_ ?_
  · rintro i d e g1 hd ⟨e1, a, b, d2, rfl⟩
    subst e1
    obtain ⟨hi, rfl⟩ := rngL_get hd
    have hi : i < L.length := by omega
    have w1 := pow_pos' i
    have w2 := pow_le (a := i) (b := 61) (by omega)
    have w3 : (2 : Int) ^ 61 = 2305843009213693952 := by decide
    refine ⟨_, rfl, ?_⟩
    show WS (seqS _ _ [_, _, _, _, _, .v (.int (0 + (i : Int))), _, _] _) _ _ _ _
    rw [Int.zero_add, sumTo]
    walk_at "wp"
    · rename_i q
      rw [show clsP L.length i = mulP (2 ^ i) by funext p; unfold clsP; rw [if_pos (by omega)]]
      exact ⟨_, _, _, rfl⟩
    · rename_i q
      rw [show clsP L.length i = rnkP i by funext p; unfold clsP; rw [if_neg (by omega)]]
      exact ⟨_, _, _, rfl⟩
  · rintro e g1 ⟨e1, a, b, d2, rfl⟩
    subst e1
    rw [rngL_length, Int.toNat_natCast]
    walk_at "wp"
local macro_rules | `(tactic| walk_at "call") => `(tactic| (with_reducible show WR (p_kept_between _ _) _; with_reducible refine WR.eqv (kept_between_wp (by first | assumption | decide) (by walk_at "om") (by walk_at "om") (by walk_at "om")) ?_))
theorem kept_count_wp {g : List Cell} {c : Nat} {L : List Lf} {t : Int} (hc : c < 2) (h1 : 0 < L.length) (h2 : L.length ≤ 61) : WR (p_kept_count [ruD c L, .int t] g) fun d g' => g' = g ∧ d = .int (cntK L t 0 t) := by
  refine wp_fn rfl ?_
  walk_at "wp"
local macro_rules | `(tactic| walk_at "call") => `(tactic| (with_reducible show WR (p_kept_count _ _) _; with_reducible refine WR.eqv (kept_count_wp (by first | assumption | decide) (by walk_at "om") (by walk_at "om")) ?_))
theorem kept_between_short {g : List Cell} {c : Nat} {L : List Lf} {t lo hi : Int} (hc : c < 2) (h1 : 0 < L.length) (h2 : L.length ≤ 61) (h0 : 0 ≤ lo) : WR (p_kept_between [ruD c (short L), .int t, .int lo, .int hi] g) fun d g' => g' = g ∧ d = .int (cntK L t lo hi) := by
  have k1 := short_pos h1
  have k2 := short_le L
  rw [← cntK_short h1]
  exact kept_between_wp hc k1 (by omega) h0
theorem kept_count_short {g : List Cell} {c : Nat} {L : List Lf} {t : Int} (hc : c < 2) (h1 : 0 < L.length) (h2 : L.length ≤ 61) : WR (p_kept_count [ruD c (short L), .int t] g) fun d g' => g' = g ∧ d = .int (cntK L t 0 t) := by
  have k1 := short_pos h1
  have k2 := short_le L
  rw [← cntK_short h1]
  exact kept_count_wp hc k1 (by omega)
local macro_rules | `(tactic| walk_at "call") => `(tactic| (with_reducible show WR (p_kept_between _ _) _; with_reducible refine WR.eqv (kept_between_short (by first | assumption | decide) (by walk_at "om") (by walk_at "om") (by walk_at "om")) ?_))
local macro_rules | `(tactic| walk_at "call") => `(tactic| (with_reducible show WR (p_kept_count _ _) _; with_reducible refine WR.eqv (kept_count_short (by first | assumption | decide) (by walk_at "om") (by walk_at "om")) ?_))
theorem Rp.cntK {L : List Lf} {t lo hi : Int} {k : Nat} (h : hi - lo ≤ 1000000000000000000000000) : Rp (.int (LW.cntK L t lo hi)) k 130 := by
  have := cntK_bd (L := L) (t := t) (lo := lo) (hi := hi)
  exact Rp.int (by omega)
local macro_rules | `(tactic| walk_at "rp") => `(tactic| with_reducible exact Rp.cntK (by walk_at "om"))
/-! Cf: family A: draws, lives -/
def q_great : List D → List Cell → R D := fnM 1 6 (seqS (asgS (callM 2 q_pick (consM (varM 0) (consM (valM (fitM (consM (conM (.int 1)) (consM (conM (.int 3)) (consM (conM (.int 20)) (consM (conM (.int 61)) (nilM))))))) (nilM)))) (tgN 1))
    (seqS (asgS (callM 2 q_pick (consM (varM 0) (consM (valM (fitM (consM (conM (.int 1)) (consM (conM (.int 1000000000)) (consM (conM (.int 10000000000000000)) (consM (opM fdivD (conM (.int 1000000000000000000)) (seeM 1)) (nilM))))))) (nilM)))) (tgN 2))
    (seqS (parFS 4 5 (fitM (nilM)) (callM 2 q_take (consM (varM 0) (consM (opM addD (seeM 2) (conM (.int 1))) (nilM)))))
    (seqS (forS (rngIt (consM (seeM 1) (nilM))) (tgN 3)
    (seqS (appendS 4 (bltM minF (consM (conM (.int 1000000000000000000)) (consM (seeM 5) (nilM)))))
    (asgS (opM addD (seeM 5) (callM 2 q_take (consM (varM 0) (consM (opM addD (seeM 2) (conM (.int 1))) (nilM))))) (tgN 5))))
    (retS (bltM tupF (consM (opM addD (slM (seeM 4) (noP) (atP (unM negD (conM (.int 1))))) (valM (fitM (consM (callM 2 q_pick (consM (varM 0) (consM (valM (fitM (consM (opM ixD (seeM 4) (unM negD (conM (.int 1)))) (consM (opM ixD (seeM 4) (unM negD (conM (.int 1)))) (consM (conM (.int 1000000000000000000)) (consM (conM .non) (nilM))))))) (nilM)))) (nilM))))) (nilM))))))))
def q_livesvv : List D → List Cell → R D := fnM 3 6 (seqS (parFS 4 5 (fitM (nilM)) (callM 2 q_pick (consM (varM 0) (consM (valM (fitM (consM (conM (.int 0)) (consM (conM (.int 0)) (consM (conM (.int 1)) (consM (callM 2 q_take (consM (varM 0) (consM (varM 2) (nilM)))) (nilM))))))) (nilM)))))
    (seqS (forS (rngIt (consM (opM addD (conM (.int 1)) (callM 2 q_take (consM (varM 0) (consM (varM 1) (nilM))))) (nilM))) (tgN 3)
    (seqS (appendS 4 (varM 5))
    (asgS (bltM minF (consM (seeM 2) (consM (opM addD (seeM 5) (callM 2 q_pick (consM (varM 0) (consM (valM (fitM (consM (conM (.int 0)) (consM (conM (.int 1)) (consM (conM (.int 2)) (consM (varM 5) (consM (callM 2 q_take (consM (varM 0) (consM (varM 2) (nilM)))) (nilM)))))))) (nilM))))) (nilM)))) (tgN 5))))
    (seqS (ifS (boolM (opM eqA (callM 2 q_take (consM (varM 0) (consM (conM (.int 6)) (nilM)))) (conM (.int 0))))
    (appendS 4 (conM .non))
    (skipS))
    (retS (bltM tupF (consM (seeM 4) (nilM)))))))
/-! Co: ranks of points, points in rules -/
def p_rank : List D → List Cell → R D := fnM 1 1 (retS (ifV (boolM (opM gtD (seeM 0) (conM (.int 0)))) (opM subD (unM bitsD (opM andD (seeM 0) (unM negD (seeM 0)))) (conM (.int 1))) (conM .non)))
def p_Rule_contains : List D → List Cell → R D := fnM 2 5 (seqS (ifS (orB (notB (boolM (unM (isiD "tuple") (varM 1)))) (orB (boolM (opM neA (bltM lenF (consM (seeM 1) (nilM))) (conM (.int 2)))) (notB (boolM (bltM allF (consM (valM (lcM (seqIt (varM 1)) (tgN 4) (yesB) (callM 1 (fun ds g => p_is_integer (ds ++ [.non]) g) (consM (varM 4) (nilM))) [4])) (nilM)))))))
    (retS (conM (.bl false)))
    (skipS))
    (seqS (asgS (varM 1) (tgT 2 (tgs1 (tgN 2) (tgs1 (tgN 3) (tgs0)))))
    (retS (andV (opM leD (seeM 2) (seeM 3)) (callM 2 p_is_at_least (consM (callM 2 p_life_of (consM (unM (fldD 2) (varM 0)) (consM (callM 1 p_rank (consM (varM 2) (nilM))) (nilM)))) (consM (opM addD (opM subD (seeM 3) (seeM 2)) (conM (.int 1))) (nilM))))))))
theorem and_pred (p : Nat) (h : 0 < p) : p &&& (p - 1) = p - 2 ^ tz p ∧ 2 ^ tz p ≤ p := by
  have hm : (p &&& (p - 1)) % 2 = 0 := by
    have := Nat.and_mod_two_pow (a := p) (b := p - 1) (n := 1)
    rw [Nat.pow_one] at this
    rw [this]
    by_cases q : p % 2 = 0
    · rw [q, Nat.zero_and]
    · rw [show (p - 1) % 2 = 0 by omega, Nat.and_zero]
  have hd := Nat.and_div_two (a := p) (b := p - 1)
  induction p using tz.induct with
  | case1 p hp ih =>
    have hm' : (p / 2 &&& (p / 2 - 1)) % 2 = 0 := by
      have := Nat.and_mod_two_pow (a := p / 2) (b := p / 2 - 1) (n := 1)
      rw [Nat.pow_one] at this
      rw [this]
      by_cases q : p / 2 % 2 = 0
      · rw [q, Nat.zero_and]
      · rw [show (p / 2 - 1) % 2 = 0 by omega, Nat.and_zero]
    obtain ⟨i1, i2⟩ := ih (by omega) hm' (Nat.and_div_two ..)
    rw [show (p - 1) / 2 = p / 2 - 1 by omega, i1] at hd
    rw [tz_even hp.1 hp.2, Nat.pow_succ]
    omega
  | case2 p hp =>
    have : p % 2 ≠ 0 := fun z => hp ⟨h, z⟩
    rw [tz_odd this, Nat.pow_zero]
    rw [show (p - 1) / 2 = p / 2 by omega, Nat.and_self] at hd
    omega
theorem rank_wp {g : List Cell} {p : Nat} : WR (p_rank [.int p] g) fun d g' => g' = g ∧ d = if 0 < p then .int (tz p) else .non := by
  refine wp_fn rfl ?_
  walk_at "wp"
  · rename_i hp
    have hp' : 0 < p := by omega
    have e : Builtin.bitAnd (p : Int) (-(p : Int)) = ((2 ^ tz p : Nat) : Int) := by
      unfold Builtin.bitAnd
      rw [decide_eq_true (show (0 : Int) ≤ p by omega), decide_eq_false (show ¬ (0 : Int) ≤ -(p : Int) by omega)]
      obtain ⟨a1, a2⟩ := and_pred p hp'
      show (p : Int) - ((Int.toNat p &&& Int.toNat (- -(p : Int) - 1) : Nat) : Int) = _
      rw [show Int.toNat (- -(p : Int) - 1) = p - 1 by omega, Int.toNat_natCast, a1]
      omega
    rw [e, if_pos hp']
    congr 1
    unfold Builtin.Int.intBits
    have h2 : 0 < 2 ^ tz p := Nat.two_pow_pos _
    rw [if_neg (by simp only [beq_iff_eq]; omega), Int.natAbs_natCast, Nat.log2_two_pow]
    omega
  · rename_i hp
    rw [if_neg (by omega)]
theorem cap_tz {m p : Nat} (hm : m ≤ 1000) : cap m (p : Int) = min m (if 0 < p then tz p else 1000) := by
  by_cases h : 0 < p
  · rw [if_pos h]
    obtain ⟨k, hk⟩ := tz_spec p h
    have h1 : ((p : Int)) % 2 ^ tz p = 0 := by
      have : (p : Int) = (2 * (k : Int) + 1) * 2 ^ tz p := by exact_mod_cast hk
      rw [this]
      exact Int.mul_emod_left _ _
    have h2 : (p : Int) % 2 ^ (tz p + 1) ≠ 0 := fun z => by
      obtain ⟨c, hc⟩ := Int.dvd_of_emod_eq_zero z
      have : (p : Int) = (2 * (k : Int) + 1) * 2 ^ tz p := by exact_mod_cast hk
      rw [this, Int.pow_succ, Int.mul_comm (2 * (k : Int) + 1), Int.mul_assoc] at hc
      have := Int.eq_of_mul_eq_mul_left (show (2 : Int) ^ tz p ≠ 0 by have := pw_pos (tz p); omega) hc
      omega
    by_cases q : tz p < m
    · rw [Nat.min_eq_right (by omega)]
      exact cap_eq (by omega) h1 (.inr h2)
    · rw [Nat.min_eq_left (by omega)]
      exact cap_eq (Nat.le_refl _) (mod_down (by omega) h1) (.inl rfl)
  · rw [if_neg h, show p = 0 by omega, Nat.min_eq_left hm]
    exact cap_zero m
def rankO (p : Int) : Option Int := if 0 < p then some (tz p.toNat : Nat) else none
theorem rank_int {g : List Cell} {p : Int} (h0 : 0 ≤ p) : WR (p_rank [.int p] g) fun d g' => g' = g ∧ d = lfD (rankO p) := by
  obtain ⟨n, rfl⟩ : ∃ n : Nat, p = n := ⟨p.toNat, by omega⟩
  refine (rank_wp (g := g) (p := n)).mono fun d g' ⟨e, h⟩ => ⟨e, ?_⟩
  rw [h]
  unfold rankO
  by_cases q : 0 < n
  · rw [if_pos q, if_pos (by omega), Int.toNat_natCast]; rfl
  · rw [if_neg q, if_neg (by omega)]; rfl
local macro_rules | `(tactic| walk_at "call") => `(tactic| (with_reducible show WR (p_rank _ _) _; with_reducible refine WR.eqv (rank_int (by walk_at "om")) ?_))
theorem life_rank {g : List Cell} {L : List Lf} {p : Int} (h : 0 < L.length) (h2 : L.length ≤ 1000) (h0 : 0 ≤ p) : WR (p_life_of [lvD L, lfD (rankO p)] g) fun d g' => g' = g ∧ d = lfD (lfp L p) := by
  obtain ⟨n, rfl⟩ : ∃ n : Nat, p = n := ⟨p.toNat, by omega⟩
  have hc := cap_tz (m := L.length - 1) (p := n) (by omega)
  unfold rankO
  by_cases q : 0 < n
  · rw [if_pos (by omega)]
    rw [if_pos q] at hc
    have e : fl L (tz n) = lfp L n := by unfold lfp fl; rw [hc, Nat.min_comm]
    have := life_of_wp (g := g) (L := L) (i := (tz n : Nat)) h (by omega)
    rw [Int.toNat_natCast, e] at this
    rw [Int.toNat_natCast]
    exact this
  · rw [if_neg (by omega)]
    rw [if_neg q] at hc
    refine wp_fn rfl ?_
    walk_at "wp"
    unfold lfp
    rw [hc, Nat.min_eq_left (by omega)]
local macro_rules | `(tactic| walk_at "call") => `(tactic| (with_reducible show WR (p_life_of _ _) _; with_reducible refine WR.eqv (life_rank (by walk_at "om") (by walk_at "om") (by walk_at "om")) ?_))
theorem contains_wp {g : List Cell} {c : Nat} {L : List Lf} {p t : Int} (hc : c < 2) (h1 : 0 < L.length) (h2 : L.length ≤ 1000) : WR (p_Rule_contains [ruD c L, .tup [.int p, .int t]] g) fun d g' => g' = g ∧ d = .bl (decide (Kp L t p)) := by
  refine wp_fn rfl ?_
  walk_at "wp"
  refine lcMap (f := D.int) (xs := [p, t]) (fun x => .bl (decide (0 ≤ x))) ?_ ?_
  · intro i x hx
    refine ⟨_, rfl, ?_⟩
    show WR (callM 1 _ _ [_, _, _, _, .v (.int x)] _) _
    walk_at "wp"
  · walk_at "wp"
    rw [show ([p, t].all fun x => decide (0 ≤ x)) = decide (0 ≤ p ∧ 0 ≤ t) by simp [List.all_cons]]
    walk_at "wp"
    · rename_i q
      exact congrArg D.bl (decide_eq_false fun z => q ⟨z.1, by have := z.1; have := z.2.1; omega⟩).symm
    · rename_i q0 q1
      exact congrArg D.bl (decide_eq_decide.mpr ⟨fun z => ⟨q0.1, q1, z⟩, fun z => z.2.2⟩)
    · rename_i q0 q1
      exact congrArg D.bl (decide_eq_false fun z => q1 z.2.1).symm
theorem kRuIn_wp {g : List Cell} {c : Nat} {L : List Lf} {p t : Int} {P : D → List Cell → Prop} (hc : c < 2) (h1 : 0 < L.length) (h2 : L.length ≤ 1000) (h : P (.bl (decide (Kp L t p))) g) : WR (kRuIn false p_Rule_contains (.tup [.int p, .int t]) (ruD c L) g) P :=
  wp_kRuIn hc (WR.eqv (contains_wp hc h1 h2) ⟨_, rfl, h⟩)
theorem kRuIn_short {g : List Cell} {c : Nat} {L : List Lf} {p t : Int} {P : D → List Cell → Prop} (hc : c < 2) (h1 : 0 < L.length) (h2 : L.length ≤ 1000) (h : P (.bl (decide (Kp L t p))) g) : WR (kRuIn false p_Rule_contains (.tup [.int p, .int t]) (ruD c (short L)) g) P := by
  have k1 := short_pos h1
  have k2 := short_le L
  refine kRuIn_wp hc k1 (by omega) ?_
  rwa [decide_eq_decide.mpr (Kp_short h1)]
theorem kRnIn_wp {g : List Cell} {c : Nat} {L : List Lf} {p t : Int} {P : D → List Cell → Prop} (hc : c < 2) (h1 : 0 < L.length) (h2 : L.length ≤ 1000) (h : P (.bl (!decide (Kp L t p))) g) : WR (kRuIn true p_Rule_contains (.tup [.int p, .int t]) (ruD c L) g) P :=
  wp_kRuIn hc (WR.eqv (contains_wp hc h1 h2) ⟨_, rfl, h⟩)
theorem kRnIn_short {g : List Cell} {c : Nat} {L : List Lf} {p t : Int} {P : D → List Cell → Prop} (hc : c < 2) (h1 : 0 < L.length) (h2 : L.length ≤ 1000) (h : P (.bl (!decide (Kp L t p))) g) : WR (kRuIn true p_Rule_contains (.tup [.int p, .int t]) (ruD c (short L)) g) P := by
  have k1 := short_pos h1
  have k2 := short_le L
  refine kRnIn_wp hc k1 (by omega) ?_
  rwa [decide_eq_decide.mpr (Kp_short h1)]
local macro_rules | `(tactic| walk_at "call") => `(tactic| (with_reducible show WR (kRuIn _ _ _ _ _) _; with_reducible refine kRuIn_wp (by first | assumption | decide) (by walk_at "om") (by walk_at "om") ?_))
local macro_rules | `(tactic| walk_at "call") => `(tactic| (with_reducible show WR (kRuIn _ _ _ _ _) _; with_reducible refine kRnIn_wp (by first | assumption | decide) (by walk_at "om") (by walk_at "om") ?_))
local macro_rules | `(tactic| walk_at "call") => `(tactic| (with_reducible show WR (kRuIn _ _ _ _ _) _; with_reducible refine kRuIn_short (by first | assumption | decide) (by walk_at "om") (by walk_at "om") ?_))
local macro_rules | `(tactic| walk_at "call") => `(tactic| (with_reducible show WR (kRuIn _ _ _ _ _) _; with_reducible refine kRnIn_short (by first | assumption | decide) (by walk_at "om") (by walk_at "om") ?_))

/-! Ci: family A: points one by one -/
def q_is_keptv : List D → List Cell → R D := fnM 3 4 (seqS (asgS (callM 2 q_life (consM (varM 0) (consM (callM 1 q_zeros (consM (varM 1) (nilM))) (nilM)))) (tgN 3))
    (retS (andV (opM leD (seeM 1) (seeM 2)) (orV (opM isND (seeM 3) (conM .non)) (opM ltD (opM subD (seeM 2) (seeM 1)) (seeM 3))))))
def q_all_kept : List D → List Cell → R D := fnM 2 3 (retS (valM (lcM (rngIt (consM (opM addD (seeM 1) (conM (.int 1))) (nilM))) (tgN 2) (boolM (callM 3 q_is_keptv (consM (varM 0) (consM (varM 2) (consM (varM 1) (nilM)))))) (varM 2) [2])))
theorem keptN_len (L : List Lf) (t : Int) : (keptN L t).length ≤ (t + 1).toNat := by
  have := List.length_filter_le (fun i : Nat => decide (Kp L t i)) (List.range (t + 1).toNat)
  rwa [List.length_range] at this
/-! Ce: settled -/
/-! Cy: several changes -/
def p_after_changes : List D → List Cell → R D := fnM 2 5 (seqS (asgS (varM 0) (tgN 2))
    (seqS (forS (seqIt (varM 1)) (tgT 2 (tgs1 (tgN 3) (tgs1 (tgN 4) (tgs0))))
    (asgS (callM 3 p_changed (consM (varM 2) (consM (varM 3) (consM (varM 4) (nilM))))) (tgN 2)))
    (retS (varM 2))))
def cgD (c : Nat) (x : List Lf × Int) : D := .tup [ruD c x.1, .int x.2]
def chF (L : List Lf) (xs : List (List Lf × Int)) : List Lf := xs.foldl (fun L x => chR L x.1 x.2) L
def Okc (xs : List (List Lf × Int)) : Prop := ∀ x ∈ xs, Rul x.1 ∧ 0 ≤ x.2
theorem Okc.nil : Okc [] := fun x hx => nomatch hx
theorem Okc.cons {M : List Lf} {t : Int} {xs : List (List Lf × Int)} (h : Rul M) (ht : 0 ≤ t) (k : Okc xs) : Okc ((M, t) :: xs) := fun x hx => by
  rcases List.mem_cons.mp hx with hx | hx
  · subst hx; exact ⟨h, ht⟩
  · exact k x hx
theorem rule_of_short {g : List Cell} {L : List Lf} (h : Given L) : WR (p_Rule_of [.cl 0, lvD (short L)] g) fun d g' => g' = g ∧ d = ruD 0 (short L) := by
  have := rule_of_wp (g := g) h.short
  rwa [tight_short h.short.ne h.rul.tight] at this
local macro_rules | `(tactic| walk_at "call") => `(tactic| (with_reducible show WR (p_Rule_of _ _) _; with_reducible refine WR.eqv (rule_of_short (by assumption)) ?_))
def Okb (xs : List (List Lf × Int)) : Prop := ∀ x ∈ xs, Bd 1000000000000000000 x.1 ∧ x.2 ≤ 1000000000000000000
/-! Cl: the law own set behind a change -/
/-- what the law's own set holds, so many ticks behind the change -/
def ChP (L M : List Lf) (a t p : Int) : Prop := 0 ≤ p ∧ p ≤ a + t ∧ LeL (some (a + t - p + 1)) (lfp M p) ∧ LeL (some (a - p + 1)) (lfp L p)
instance (L M : List Lf) (a t p : Int) : Decidable (ChP L M a t p) := by unfold ChP; infer_instance
def chN (L M : List Lf) (a t : Nat) : List Nat := (List.range (a + t + 1)).filter fun i => decide (ChP L M a t (i : Nat))
theorem cnt_nat {P : Int → Bool} : ∀ n : Nat, cnt P 0 ((n : Int) - 1) = (((List.range n).filter fun i => P (i : Nat)).length : Nat)
  | 0 => by rw [cnt_empty (by omega)]; rfl
  | n + 1 => by
    rw [show ((n + 1 : Nat) : Int) - 1 = (n : Int) by omega, cnt_step (by omega), cnt_nat n, List.range_succ, List.filter_append, List.length_append, List.filter_cons]
    cases q : P (n : Nat) with
    | true => rw [if_pos rfl]; rfl
    | false => rw [if_neg (by decide)]; rfl
theorem cntK_nat {L : List Lf} {n : Nat} : cntK L (n : Nat) 0 (n : Nat) = ((keptN L (n : Nat)).length : Nat) := by
  unfold cntK keptN
  have := cnt_nat (P := fun p => decide (Kp L (n : Nat) p)) (n + 1)
  rw [show ((n + 1 : Nat) : Int) - 1 = (n : Int) by omega] at this
  rw [this, show ((n : Int) + 1).toNat = n + 1 by omega]
theorem keptN_le {L : List Lf} {n : Nat} : ∀ i ∈ keptN L (n : Nat), i ≤ n := fun i hi => by
  have := (keptN_mem.mp hi).2.1
  omega
/-! CP: family C: draws, lives, this law's own points (a model: tick, lives in force, points) -/
def q_pot_of : List D → List Cell → R D := fnM 2 4 (seqS (asgS (ifV (boolM (opM ltD (seeM 1) (bltM lenF (consM (seeM 0) (nilM))))) (opM ixD (seeM 0) (seeM 1)) (opM addD (opM mulD (conM (.int 31)) (seeM 1)) (conM (.int 6)))) (tgN 2))
    (seqS (asgS (opM mulD (opM modD (bltM absF (consM (seeM 2) (nilM))) (conM (.int 1000000000000000000000000000000000000000000000000000000000000000000000000000000000000000000000000000000000000000000000000000000000000000000000000000000000000000000000000000000000000000000000000000000000000000000000000000000000000000000000000000000000000000000000000000000000000000000000000000000000000))) (bltM intF (consM (opM geD (bltM absF (consM (seeM 2) (nilM))) (conM (.int 1000000000000000000))) (nilM)))) (tgN 3))
    (retCell (fitM (consM (varM 3) (consM (opM modD (opM addD (opM addD (opM mulD (opM modD (seeM 2) (conM (.int 2305843009213693951))) (conM (.int 48271))) (opM mulD (opM mulD (conM (.int 7919)) (seeM 1)) (seeM 1))) (conM (.int 13))) (conM (.int 2305843009213693921))) (consM (conM (.int 0)) (nilM))))))))
def q_takevv : List D → List Cell → R D := fnM 2 5 (seqS (ifS (boolM (opM gtD (opM ixD (seeM 0) (conM (.int 0))) (conM (.int 0))))
    (seqS (asgS (opM modD (opM ixD (seeM 0) (conM (.int 0))) (seeM 1)) (tgN 4))
    (seqS (setS 0 (conM (.int 0)) (opM fdivD (opM ixD (seeM 0) (conM (.int 0))) (seeM 1)))
    (retS (varM 4))))
    (skipS))
    (seqS (setS 0 (conM (.int 2)) (opM addD (opM ixD (seeM 0) (conM (.int 2))) (conM (.int 1))))
    (seqS (asgS (opM ixD (valM (fitM (consM (conM (.int 2147483647)) (consM (conM (.int 2147483629)) (consM (conM (.int 2147483587)) (consM (conM (.int 2147483579)) (consM (conM (.int 2147483563)) (nilM)))))))) (opM modD (opM ixD (seeM 0) (conM (.int 2))) (conM (.int 5)))) (tgN 2))
    (seqS (asgS (opM modD (opM powD (opM addD (opM addD (opM ixD (seeM 0) (conM (.int 1))) (opM mulD (opM mulD (conM (.int 65537)) (opM ixD (seeM 0) (conM (.int 2)))) (opM ixD (seeM 0) (conM (.int 2))))) (conM (.int 29))) (conM (.int 3))) (seeM 2)) (tgN 3))
    (retS (opM modD (opM fdivD (opM modD (opM mulD (seeM 3) (opM addD (opM modD (seeM 3) (conM (.int 10007))) (opM mulD (conM (.int 97)) (opM ixD (seeM 0) (conM (.int 2)))))) (conM (.int 2305843009213693907))) (conM (.int 97))) (seeM 1)))))))
def q_ofv : List D → List Cell → R D := fnM 2 2 (retS (opM ixD (seeM 1) (callM 2 q_takevv (consM (varM 0) (consM (bltM lenF (consM (seeM 1) (nilM))) (nilM))))))
def q_drawn_lives : List D → List Cell → R D := fnM 2 5 (seqS (parFS 3 4 (fitM (nilM)) (conM (.int 0)))
    (seqS (forS (rngIt (consM (opM addD (conM (.int 1)) (callM 2 q_takevv (consM (varM 0) (consM (varM 1) (nilM))))) (nilM))) (tgN 2)
    (seqS (asgS (opM addD (seeM 4) (callM 2 q_ofv (consM (varM 0) (consM (valM (fitM (consM (conM (.int 0)) (consM (conM (.int 1)) (consM (conM (.int 2)) (consM (conM (.int 0)) (consM (conM (.int 3)) (consM (conM (.int 5)) (consM (conM (.int 9)) (consM (conM (.int 14)) (nilM))))))))))) (nilM))))) (tgN 4))
    (appendS 3 (varM 4))))
    (seqS (ifS (boolM (opM eqA (callM 2 q_takevv (consM (varM 0) (consM (conM (.int 5)) (nilM)))) (conM (.int 0))))
    (setS 3 (unM negD (conM (.int 1))) (conM .non))
    (skipS))
    (retS (bltM tupF (consM (seeM 3) (nilM)))))))
def q_lifev : List D → List Cell → R D := fnM 2 4 (seqS (ifS (boolM (opM eqA (seeM 1) (conM (.int 0))))
    (retS (opM ixD (seeM 0) (unM negD (conM (.int 1)))))
    (skipS))
    (seqS (parS 2 3 (conM (.int 0)) (varM 1))
    (seqS (whL (boolM (opM eqA (opM modD (seeM 3) (conM (.int 2))) (conM (.int 0))))
    (parS 2 3 (opM addD (seeM 2) (conM (.int 1))) (opM fdivD (seeM 3) (conM (.int 2)))) 100000)
    (retS (opM ixD (seeM 0) (bltM minF (consM (seeM 2) (consM (opM subD (bltM lenF (consM (seeM 0) (nilM))) (conM (.int 1))) (nilM)))))))))
def q_lives_on : List D → List Cell → R D := fnM 3 4 (seqS (asgS (callM 2 q_lifev (consM (varM 0) (consM (varM 1) (nilM)))) (tgN 3))
    (retS (andV (chM leD leD (conM (.int 0)) (seeM 1) (seeM 2)) (orV (opM isND (seeM 3) (conM .non)) (opM ltD (opM subD (seeM 2) (seeM 1)) (seeM 3))))))
def q_model_of : List D → List Cell → R D := fnM 2 3 (retCell (fitM (consM (varM 1) (consM (varM 0) (consM (valM (lcM (rngIt (consM (opM addD (seeM 1) (conM (.int 1))) (nilM))) (tgN 2) (boolM (callM 3 q_lives_on (consM (varM 0) (consM (varM 2) (consM (varM 1) (nilM)))))) (varM 2) [2])) (nilM))))))
def q_passed : List D → List Cell → R D := fnM 2 5 (forS (rngIt (consM (seeM 1) (nilM))) (tgN 2)
    (seqS (setS 0 (conM (.int 0)) (opM addD (opM ixD (seeM 0) (conM (.int 0))) (conM (.int 1))))
    (seqS (asgS (opM addD (opM ixD (seeM 0) (conM (.int 2))) (valM (fitM (consM (opM ixD (seeM 0) (conM (.int 0))) (nilM))))) (tgN 3))
    (setS 0 (conM (.int 2)) (valM (lcM (seqIt (varM 3)) (tgN 4) (boolM (callM 3 q_lives_on (consM (opM ixD (seeM 0) (conM (.int 1))) (consM (varM 4) (consM (opM ixD (seeM 0) (conM (.int 0))) (nilM)))))) (varM 4) [4]))))))
def q_turned : List D → List Cell → R D := fnM 2 3 (seqS (setS 0 (conM (.int 1)) (varM 1))
    (setS 0 (conM (.int 2)) (valM (lcM (seqIt (opM ixD (seeM 0) (conM (.int 2)))) (tgN 2) (boolM (callM 3 q_lives_on (consM (varM 1) (consM (varM 2) (consM (opM ixD (seeM 0) (conM (.int 0))) (nilM)))))) (varM 2) [2]))))
theorem takeC_wp {g : List Cell} {n B : Nat} {k : Int} (h : Pot g n B) (hB : 1 ≤ B) (hk : 0 < k) (hk2 : k < 18446744073709551616) : WR (q_takevv [.g n, .int k] g) fun d g' => ∃ r, d = .int r ∧ 0 ≤ r ∧ r < k ∧ Pot g' n (B - 1) ∧ But n g g' := by
  obtain ⟨a, b, c, h1, h2, h3, h4, h5⟩ := h
  refine wp_fn rfl ?_
  walk_at "wp"
  · exact ⟨Int.emod_nonneg _ (by omega), Int.emod_lt_of_pos _ hk, ⟨a / k, b, c, cset_get h1, Int.ediv_nonneg h2 (by omega), h3, h4, by omega⟩, But.set ..⟩
  · obtain ⟨d, hd, e⟩ := atI_mem (ds := [D.int 2147483647, D.int 2147483629, D.int 2147483587, D.int 2147483579, D.int 2147483563]) (i := (c + 1) % 5) (by omega) (by simp only [List.length_cons, List.length_nil]; omega)
    have hp : ∃ p : Int, d = .int p ∧ 0 < p ∧ p < 2147483648 := by
      simp only [List.mem_cons, List.not_mem_nil, or_false] at hd
      rcases hd with rfl | rfl | rfl | rfl | rfl <;> exact ⟨_, rfl, by omega, by omega⟩
    obtain ⟨p, rfl, p1, p2⟩ := hp
    have q1 : (c + 1) * (c + 1) ≤ 4194304 * 4194304 := Int.mul_le_mul (by omega) (by omega) (by omega) (by omega)
    have q2 : 0 ≤ (c + 1) * (c + 1) := Int.mul_nonneg (by omega) (by omega)
    have q3 : 65537 * (c + 1) * (c + 1) = 65537 * ((c + 1) * (c + 1)) := Int.mul_assoc ..
    have m1 := Int.emod_nonneg ((b + 65537 * (c + 1) * (c + 1) + 29) ^ Int.toNat 3) (show p ≠ 0 by omega)
    have m2 := Int.emod_lt_of_pos ((b + 65537 * (c + 1) * (c + 1) + 29) ^ Int.toNat 3) p1
    refine ⟨_, e, ?_⟩
    walk_at "wp"
    exact ⟨Int.emod_nonneg _ (by omega), Int.emod_lt_of_pos _ hk, ⟨a, b, c + 1, cset_get h1, h2, h3, by omega, by omega⟩, But.set ..⟩
theorem ofC_wp {g : List Cell} {n B : Nat} {ds : List D} (h : Pot g n B) (hB : 1 ≤ B) (hk : 0 < ds.length) (hk2 : ds.length ≤ 16777216) : WR (q_ofv [.g n, .lst ds] g) fun d g' => d ∈ ds ∧ Pot g' n (B - 1) ∧ But n g g' := by
  refine wp_fn rfl ?_
  walk_at "wp"
  refine (takeC_wp h hB (by omega) (by omega)).mono fun d g1 ⟨r, e, r1, r2, p, u⟩ => ?_
  subst e
  obtain ⟨d, hd, e⟩ := atI_mem r1 r2
  exact ⟨d, e, hd, p, u⟩
theorem ofC_int {g : List Cell} {n B : Nat} {ds : List D} (lo hi : Int) (h : Pot g n B) (hB : 1 ≤ B) (hk : 0 < ds.length) (hk2 : ds.length ≤ 16777216) (hall : IntsIn lo hi ds) : WR (q_ofv [.g n, .lst ds] g) fun d g' => ∃ k, d = .int k ∧ (lo ≤ k ∧ k ≤ hi) ∧ Pot g' n (B - 1) ∧ But n g g' :=
  (ofC_wp h hB hk hk2).mono fun d g' ⟨hd, hp⟩ => let ⟨k, e, h1, h2⟩ := hall d hd; ⟨k, e, ⟨h1, h2⟩, hp⟩
local macro_rules | `(tactic| walk_at "call") => `(tactic| (with_reducible show WR (q_takevv _ _) _; (with_reducible refine WR.mono (takeC_wp (by assumption) (by walk_at "om") (by walk_at "om") (by walk_at "om")) (fun d g1 h => ?_); obtain ⟨r, e, r0, r1, hp, hb⟩ := h; subst e)))
theorem potC_wp {g : List Cell} {ns : List Int} {k : Int} (h0 : 0 ≤ k) (h1 : k < 1000000) : WR (q_pot_of [.sc ns, .int k] g) fun d g' => d = .g g.length ∧ (∃ c, g' = g ++ [c]) ∧ Pot g' g.length 4194304 := by
  have q1 : k * k ≤ 1000000 * 1000000 := Int.mul_le_mul (by omega) (by omega) (by omega) (by omega)
  have q2 : 0 ≤ k * k := Int.mul_nonneg (by omega) (by omega)
  have q3 : 7919 * k * k = 7919 * (k * k) := Int.mul_assoc ..
  refine wp_fn rfl ?_
  refine wp_seq (wp_asgN (Eq.refl 2) ?_)
  refine WR.mono (P := fun d g1 => g1 = g ∧ ∃ cell, d = .int cell) ?_ fun d g1 ⟨e1, cell, e2⟩ => ?_
  · walk_at "wp"
    · obtain ⟨z, hz, e⟩ := atI_mem (ds := ns) h0 (by assumption)
      exact ⟨.int z, by show Option.map _ _ = _; rw [e]; rfl, rfl, _, rfl⟩
    · exact ⟨_, rfl⟩
  · subst e1; subst e2
    have hl : ∀ c : Cell, (g1 ++ [c])[g1.length]? = some c := fun c => by simp
    walk_at "wp"
    all_goals exact ⟨⟨_, rfl⟩, _, _, _, hl _, Int.mul_nonneg (Int.emod_nonneg _ (by decide)) (by split <;> decide), ⟨Int.emod_nonneg _ (by decide), Int.lt_trans (Int.emod_lt_of_pos _ (by decide)) (by decide)⟩, by decide, by decide⟩
theorem drawnC_wp {g : List Cell} {n B : Nat} {lim : Int} (h : Pot g n B) (hB : 200 ≤ B) (l0 : 1 ≤ lim) (l1 : lim ≤ 60) : WR (q_drawn_lives [.g n, .int lim] g) fun d g' => ∃ L, d = lvD L ∧ L.length ≤ lim.toNat ∧ Given L ∧ Bd (14 * lim) L ∧ Pot g' n (B - 200) ∧ But n g g' := by
  refine wp_fn rfl ?_
  walk_at "wp"
  rename_i g1 r r0 r1 hp1 hb1
  refine wp_forL (fun i e g' => i ≤ (1 + r).toNat ∧ Pot g' n (B - 1 - i) ∧ But n g g' ∧ ∃ (L : List Lf) (h : Int) (a : Ev.Slot), e = [.v (.g n), .v (.int lim), a, .own (L.map lfD), .v (.int h)] ∧ L.length = i ∧ Acc L h ∧ 0 ≤ h ∧ h ≤ 14 * i) ⟨by omega, hp1, hb1, [], 0, _, rfl, rfl, Acc.nil _, by omega, by omega⟩ ?_ ?_
  · rintro i d e g3 hd ⟨hi, hp, hbb, L, h, a, rfl, hL, hA, h0, h1⟩
    obtain ⟨hi, rfl⟩ := rngL_get hd
    refine ⟨_, rfl, ?_⟩
    show WS _ _ _ _ _
    walk_at "wp"
    refine (ofC_int (B := B - 1 - i) 0 14 hp (by omega) (by walk_at "om") (by walk_at "om") (by walk_at "ints")).mono fun d g4 ⟨k, e, ⟨k0, k1⟩, hp4, hb4⟩ => ?_
    subst e
    walk_at "wp"
    rw [map_push]
    exact ⟨hbb.trans hb4, _, _, _, rfl, by walk_at "om", (hA.push (by omega) (by omega)), by omega, by omega⟩
  · rintro e g3 ⟨_, hp, hbb, L, h, a, rfl, hL, hA, h0, h1⟩
    rw [rngL_length] at hp hL h1
    have hn : 0 < L.length := by omega
    have hG : Given L := hA.given hn (by omega) (by omega)
    have hBd : Bd (14 * lim) L := fun x hx => by
      obtain ⟨m, e, m0, m1⟩ := hA.fin _ hx
      cases e
      omega
    walk_at "wp"
    · rename_i g4 _ _ _ hp4 hb4 _
      refine ⟨-1, L.length - 1, rfl, by unfold ixN; rw [if_neg (by decide), if_pos (by rw [List.length_map]; omega), List.length_map]; congr 1; omega, ?_⟩
      rw [set_last hn]
      have hE := hG.ended
      walk_at "wp"
      exact ⟨fun x hx => (List.mem_append.mp hx).elim (fun hx => hBd x (List.mem_of_mem_take hx)) fun hx => (by cases List.mem_singleton.mp hx), hp4.less (by omega), hbb.trans hb4⟩
    · rename_i g4 _ _ _ hp4 hb4 _
      exact ⟨hp4.less (by omega), hbb.trans hb4⟩
theorem lifeC_wp {g : List Cell} {L : List Lf} {p : Int} (h1 : 0 < L.length) (h2 : L.length ≤ 1000) (h0 : 0 ≤ p) (hp : p < 18446744073709551616) : WR (q_lifev [lvD L, .int p] g) fun d g' => g' = g ∧ d = lfD (lfp L p) := by
  obtain ⟨n, rfl⟩ : ∃ n : Nat, p = (n : Int) := ⟨p.toNat, by omega⟩
  have ht : tz n < 100000 := by
    by_cases z : 0 < n
    · have := tz_lt (p := n) (n := 64) z (by omega)
      omega
    · rw [show n = 0 by omega, tz, dif_neg (by omega)]
      decide
  refine wp_fn rfl ?_
  walk_at "wp"
  · rename_i q
    have hn : n = 0 := by omega
    subst hn
    show _ = lfD (at0 L (cap (L.length - 1) 0))
    rw [cap_zero]
  · rename_i q
    have hn : 0 < n := by omega
    refine wp_whN (fun k e g' => g' = g ∧ ∃ q z : Nat, k = tz q ∧ e = [.v (lvD L), .v (.int (n : Nat)), .v (.int (z : Nat)), .v (.int (q : Nat))] ∧ 0 < q ∧ tz n = tz q + z) ht ⟨rfl, n, 0, rfl, rfl, hn, rfl⟩ ?_
    rintro k e _ ⟨rfl, q, z, rfl, rfl, h3, h4⟩
    walk_at "wp"
    · rename_i a1
      have e1 := tz_even (p := q) (by omega) (by omega)
      exact ⟨tz (q / 2), by omega, rfl, q / 2, z + 1, rfl, rfl, by omega, by omega⟩
    · rename_i a1
      have e1 := tz_odd (p := q) (by omega)
      unfold lfp
      rw [cap_tz (by omega), if_pos hn, show (min (z : Int) ((L.length : Int) - 1)).toNat = min (L.length - 1) (tz n) by omega]
local macro_rules | `(tactic| walk_at "call") => `(tactic| (with_reducible show WR (q_lifev _ _) _; with_reducible refine WR.eqv (lifeC_wp (by walk_at "om") (by walk_at "om") (by walk_at "om") (by walk_at "om")) ?_))
theorem lives_onC_wp {g : List Cell} {L : List Lf} {p t : Int} (h1 : 0 < L.length) (h2 : L.length ≤ 1000) (h0 : 0 ≤ p) (hp : p < 18446744073709551616) : WR (q_lives_on [lvD L, .int p, .int t] g) fun d g' => g' = g ∧ d = .bl (decide (Kp L t p)) := by
  refine wp_fn rfl ?_
  refine wp_seq (wp_asgN rfl (WR.eqv (v := lfD (lfp L p)) (g0 := g) ?_ ?_))
  · walk_at "wp"
  have hk : Kp L t p ↔ p ≤ t ∧ LeL (some (t - p + 1)) (lfp L p) := ⟨fun h => h.2, fun h => ⟨h0, h⟩⟩
  cases e : lfp L p with
  | none =>
    rw [e] at hk
    simp only [lfD]
    walk_at "wp"
    all_goals apply congrArg
    · rename_i q
      exact (decide_eq_true (hk.mpr ⟨q, LeL.top _⟩)).symm
    · rename_i q
      exact (decide_eq_false fun z => q (hk.mp z).1).symm
  | some x =>
    rw [e] at hk
    simp only [lfD]
    walk_at "wp"
    all_goals apply congrArg
    · rename_i q1 q2
      exact (decide_eq_true (hk.mpr ⟨q1, (show t - p + 1 ≤ x by omega)⟩)).symm
    · rename_i q1 q2
      exact (decide_eq_false fun z => q2 (by have := (hk.mp z).2; simp only [LeL] at this; omega)).symm
    · rename_i q1
      exact (decide_eq_false fun z => q1 (hk.mp z).1).symm
local macro_rules | `(tactic| walk_at "call") => `(tactic| (with_reducible show WR (q_lives_on _ _) _; with_reducible refine WR.eqv (lives_onC_wp (by walk_at "om") (by walk_at "om") (by walk_at "om") (by walk_at "om")) ?_))
/-- this law's own points: the tick, the lives in force, the points -/
def mdl (t : Nat) (M : List Lf) (ps : List Nat) : Cell := .lst [.int (t : Nat), lvD M, .lst (ps.map fun i => .int (i : Nat))]
theorem model_of_wp {g : List Cell} {L : List Lf} {t : Nat} (h1 : 0 < L.length) (h2 : L.length ≤ 1000) (ht : t ≤ 1000000) : WR (q_model_of [lvD L, .int (t : Nat)] g) fun d g' => d = .g g.length ∧ g' = g ++ [mdl t L (keptN L (t : Nat))] := by
  refine wp_fn rfl ?_
  walk_at "wp"
  refine lcFil (α := Nat) (f := fun i => .int (0 + (i : Int))) (fun i => decide (Kp L (t : Nat) i)) (fun i => .int (i : Nat)) ?_ ?_
  · intro i x hx
    have hx := List.mem_range.mp (List.mem_of_getElem? hx)
    refine ⟨_, rfl, ?_⟩
    show WR (boolM _ [.v (lvD L), .v (.int (t : Nat)), .v (.int (0 + (x : Int)))] _) _
    rw [Int.zero_add]
    walk_at "wp"
    intro _
    walk_at "wp"
  · walk_at "wp"
    rfl
/-! Cs: stores -/
def p_is_number : List D → List Cell → R D := fnM 2 2 (retS (andV (unM (isiD "int") (varM 0)) (andV (notV (unM (isiD "bool") (varM 0))) (andV (opM geD (seeM 0) (conM (.int 0))) (orV (opM isND (seeM 1) (conM .non)) (opM leD (seeM 0) (seeM 1)))))))
def p_Store_init : List D → List Cell → R D := inM 3 (notB (boolM (callM 2 p_is_number (consM (varM 2) (consM (conM (.int 1000000000000000000)) (nilM)))))) (badS) (tupM (consM (varM 2) (consM (varM 1) (consM (varM 1) (consM (tupM (nilM)) (nilM))))))
def p_Store_set_state : List D → List Cell → R D := fnM 5 6 (setOb 2 0 (tupM (consM (varM 1) (consM (varM 2) (consM (varM 3) (consM (bltM tupF (consM (valM (lcM (seqIt (varM 4)) (tgN 5) (boolM (two (kRuIn false p_Rule_contains) (tupM (consM (varM 5) (consM (varM 1) (nilM)))) (varM 3))) (varM 5) [5])) (nilM))) (nilM)))))))
def p_Store_advance : List D → List Cell → R D := fnM 2 6 (seqS (ifS (notB (boolM (callM 2 p_is_number (consM (varM 1) (consM (conM (.int 1000000000000000000)) (nilM))))))
    (badS)
    (skipS))
    (seqS (asgS (unM (cobD 2) (varM 0)) (tgT 4 (tgs1 (tgN 2) (tgs1 (tgN 3) (tgs1 (tgN 4) (tgs1 (tgN 5) (tgs0)))))))
    (exprS (mthM 2 5 p_Store_set_state (varM 0) (consM (opM addD (seeM 2) (seeM 1)) (consM (varM 3) (consM (callM 3 p_changed (consM (varM 4) (consM (varM 3) (consM (varM 1) (nilM))))) (consM (varM 5) (nilM)))))))))
def p_Store_tick : List D → List Cell → R D := fnM 1 1 (retS (opM ixD (unM (cobD 2) (varM 0)) (conM (.int 0))))
abbrev stoD (now : Int) (c : Nat) (F : List Lf) (c' : Nat) (K : List Lf) (lost : List Nat) : D := .tup [.int now, ruD c F, ruD c' K, .tup (lost.map fun i => .int (i : Nat))]
theorem is_number_wp {g : List Cell} {n h : Int} : WR (p_is_number [.int n, .int h] g) fun d g' => g' = g ∧ d = .bl (decide (0 ≤ n ∧ n ≤ h)) := is_integer_wp
local macro_rules | `(tactic| walk_at "call") => `(tactic| (with_reducible show WR (p_is_number _ _) _; with_reducible refine WR.eqv is_number_wp ?_))
theorem store_init_wp {g : List Cell} {c : Nat} {F : List Lf} {t : Int} (h0 : 0 ≤ t) (h1 : t ≤ 1000000000000000000) : WR (p_Store_init [ruD c F, .int t] g) fun d g' => g' = g ∧ d = stoD t c F c F [] := by
  refine wp_in ?_
  walk_at "wp"
  refine ⟨by rw [decide_eq_true ⟨h0, h1⟩]; rfl, ?_⟩
  walk_at "wp"
  rfl
theorem store_at {g : List Cell} {c : Nat} {F : List Lf} {t : Int} (h0 : 0 ≤ t) (h1 : t ≤ 1000000000000000000) : WR (inP 3 p_Store_init [ruD c F, .int t] g) fun d g' => g' = g ∧ d = stoD t c F c F [] := by
  unfold inP
  rw [if_pos (by rfl)]
  exact store_init_wp h0 h1
theorem tick_wp {g : List Cell} {k c c' : Nat} {F K : List Lf} {now : Int} {lost : List Nat} (h : g[k]? = some (.ob 2 (stoD now c F c' K lost))) : WR (p_Store_tick [.g k] g) fun d g' => g' = g ∧ d = .int now := by
  refine wp_fn rfl ?_
  walk_at "wp"

/-! CS: stores: size, points, rule, change -/
def p_Store_size : List D → List Cell → R D := fnM 1 5 (seqS (asgS (unM (cobD 2) (varM 0)) (tgT 4 (tgs1 (tgN 1) (tgs1 (tgN 2) (tgs1 (tgN 3) (tgs1 (tgN 4) (tgs0)))))))
    (retS (opM subD (callM 2 p_kept_count (consM (varM 3) (consM (varM 1) (nilM)))) (bltM lenF (consM (seeM 4) (nilM))))))
def p_Store_points : List D → List Cell → R D := fnM 1 6 (seqS (ifS (boolM (opM gtD (mthM 2 1 p_Store_size (varM 0) (nilM)) (conM (.int 2000))))
    (badS)
    (skipS))
    (seqS (asgS (unM (cobD 2) (varM 0)) (tgT 4 (tgs1 (tgN 1) (tgs1 (tgN 2) (tgs1 (tgN 3) (tgs1 (tgN 4) (tgs0)))))))
    (retS (bltM tupF (consM (valM (lcM (genI 2 p_kept (consM (varM 3) (consM (varM 1) (nilM)))) (tgN 5) (boolM (opM (inD true) (seeM 5) (seeM 4))) (varM 5) [5])) (nilM))))))
def p_Store_rule : List D → List Cell → R D := fnM 1 1 (retS (opM ixD (unM (cobD 2) (varM 0)) (conM (.int 1))))
def p_Store_change : List D → List Cell → R D := fnM 2 6 (seqS (asgS (unM (cobD 2) (varM 0)) (tgT 4 (tgs1 (tgN 2) (tgs1 (tgN 3) (tgs1 (tgN 4) (tgs1 (tgN 5) (tgs0)))))))
    (exprS (mthM 2 5 p_Store_set_state (varM 0) (consM (varM 2) (consM (varM 1) (consM (callM 3 p_changed (consM (varM 4) (consM (varM 1) (consM (conM (.int 0)) (nilM))))) (consM (varM 5) (nilM))))))))
theorem size_wp {g : List Cell} {k c c' n : Nat} {F K : List Lf} {lost : List Nat} (h : g[k]? = some (.ob 2 (stoD (n : Nat) c F c' K lost))) (hc : c' < 2) (hK : Rul K) : WR (p_Store_size [.g k] g) fun d g' => g' = g ∧ d = .int (((keptN K (n : Nat)).length : Int) - (lost.length : Nat)) := by
  have h1 := hK.ne
  have h2 := hK.most
  have hll : (lost.map fun i => D.int (i : Nat)).length = lost.length := List.length_map ..
  have hcn := cntK_nat (L := K) (n := n)
  refine wp_fn rfl ?_
  walk_at "wp"
  rw [hcn]
theorem rule_wp {g : List Cell} {k c c' : Nat} {F K : List Lf} {now : Int} {lost : List Nat} (h : g[k]? = some (.ob 2 (stoD now c F c' K lost))) : WR (p_Store_rule [.g k] g) fun d g' => g' = g ∧ d = ruD c F := by
  refine wp_fn rfl ?_
  walk_at "wp"
theorem nin_nats {x : Nat} {ns : List Nat} {g : List Cell} : inD true (.int (x : Nat)) (.tup (ns.map fun i => .int (i : Nat))) g = some (.bl (decide (x ∉ ns))) := by
  have h := nin_ints (x := (x : Int)) (ns := ns.map fun i : Nat => (i : Int)) (g := g)
  rw [List.map_map] at h
  have e : decide ((x : Int) ∈ ns.map fun i : Nat => (i : Int)) = decide (x ∈ ns) := decide_eq_decide.mpr (by
    rw [List.mem_map]
    exact ⟨fun ⟨y, h1, h2⟩ => by rw [← show y = x by omega]; exact h1, fun h => ⟨x, h, rfl⟩⟩)
  rw [e] at h
  rw [decide_not]
  exact h
/-- the points: those that are kept, but the lost ones -/
def ptsN (K : List Lf) (n : Nat) (lost : List Nat) : List Nat := (keptN K (n : Nat)).filter fun i => decide (i ∉ lost)
theorem points_wp {g : List Cell} {k c c' n : Nat} {F K : List Lf} {lost : List Nat} (h : g[k]? = some (.ob 2 (stoD (n : Nat) c F c' K lost))) (hc : c' < 2) (hK : Rul K) (hl : lost.length ≤ 90000) (hs : (keptN K (n : Nat)).length ≤ 2000 + lost.length) : WR (p_Store_points [.g k] g) fun d g' => g' = g ∧ d = .tup ((ptsN K n lost).map fun i => .int (i : Nat)) := by
  have h1 := hK.ne
  have h2 := hK.most
  have hll : (lost.map fun i => D.int (i : Nat)).length = lost.length := List.length_map ..
  have hkl : (keptN K (n : Nat)).length ≤ 99000 := by omega
  refine wp_fn rfl ?_
  walk_at "wp"
  refine ⟨⟨_, h⟩, rfl, WR.eqv (size_wp h hc hK) ?_⟩
  walk_at "wp"
  refine lcFil (α := Nat) (f := fun i => .int (i : Nat)) (fun i => decide (i ∉ lost)) (fun i => .int (i : Nat)) ?_ ?_
  · intro j x hx
    refine ⟨_, rfl, ?_⟩
    show WR (boolM _ [_, _, _, _, .v (.tup (lost.map fun i => .int (i : Nat))), .v (.int (x : Nat))] _) _
    walk_at "wp"
    refine ⟨_, nin_nats, _, rfl, rfl, rfl, fun _ => ?_⟩
    walk_at "wp"
  · walk_at "wp"
    rfl
theorem andEx {g : List Cell} {k : Nat} {d0 : D} {B : Prop} (h : g[k]? = some (.ob 2 d0)) (b : B) : (∃ d1, g[k]? = some (.ob 2 d1)) ∧ B := ⟨⟨_, h⟩, b⟩
local macro_rules | `(tactic| walk_at "ex") => `(tactic| with_reducible refine andEx (by assumption) ?_)
local macro_rules | `(tactic| walk_at "call") => `(tactic| (with_reducible show WR (p_Store_tick _ _) _; with_reducible refine WR.eqv (tick_wp (by assumption)) ?_))
local macro_rules | `(tactic| walk_at "call") => `(tactic| (with_reducible show WR (p_Store_rule _ _) _; with_reducible refine WR.eqv (rule_wp (by assumption)) ?_))
local macro_rules | `(tactic| walk_at "call") => `(tactic| (with_reducible show WR (p_Store_size _ _) _; with_reducible refine WR.eqv (size_wp (by assumption) (by first | assumption | decide) (by walk_at "rul")) ?_))
local macro_rules | `(tactic| walk_at "call") => `(tactic| (with_reducible show WR (p_Store_points _ _) _; with_reducible refine WR.eqv (points_wp (by assumption) (by first | assumption | decide) (by walk_at "rul") (by walk_at "om") (by first | assumption | walk_at "om")) ?_))

/-! CU: is a store as this law's own points say -/
def q_is_same : List D → List Cell → R D := fnM 2 2 (seqS (ifS (boolM (opM neA (bltM rprF (consM (tupM (consM (prpM 2 p_Store_tick (varM 0)) (consM (mthM 2 1 p_Store_size (varM 0) (nilM)) (consM (mthM 2 1 p_Store_points (varM 0) (nilM)) (nilM))))) (nilM))) (bltM rprF (consM (tupM (consM (opM ixD (seeM 1) (conM (.int 0))) (consM (bltM lenF (consM (opM ixD (seeM 1) (conM (.int 2))) (nilM))) (consM (bltM tupF (consM (opM ixD (seeM 1) (conM (.int 2))) (nilM))) (nilM))))) (nilM)))))
    (retS (conM (.bl false)))
    (skipS))
    (retS (two (kRuE false p_Rule_eq) (prpM 2 p_Store_rule (varM 0)) (cmM 0 2 p_Rule_of (conM (.cl 0)) (consM (opM ixD (seeM 1) (conM (.int 1))) (nilM))))))
local macro_rules | `(tactic| walk_at "rp") => `(tactic| assumption)
theorem rpt_nats {k : Nat} {ns : List Nat} (h : ns.length ≤ 1000) (hb : ∀ i ∈ ns, i ≤ 1000000) : Rp (.tup (ns.map fun i => .int (i : Nat))) (k + 1) 400000 :=
  (Rp.tup (Rps.map (α := Nat) (f := fun i => .int (i : Nat)) (xs := ns) (n := 130) fun (x : Nat) hx => Rp.int (i := (x : Int)) (by have := hb x hx; omega))).le (by omega)
theorem pts_nil {K : List Lf} {n : Nat} : ptsN K n [] = keptN K (n : Nat) := List.filter_eq_self.mpr fun i _ => rfl
theorem is_same_wp {g : List Cell} {k m c c' n : Nat} {K M : List Lf} (hs : g[k]? = some (.ob 2 (stoD (n : Nat) c (short M) c' K []))) (hm : g[m]? = some (mdl n M (keptN K (n : Nat)))) (hc : c < 2) (hc' : c' < 2) (hK : Rul K) (hM : Given M) (hn : n ≤ 900) : WR (q_is_same [.g k, .g m] g) fun d g' => g' = g ∧ d = .bl true := by
  have hkl := keptN_len K (n : Nat)
  have hml : ((keptN K (n : Nat)).map fun i => D.int (i : Nat)).length = (keptN K (n : Nat)).length := List.length_map ..
  have hrp : Rp (.tup [.int (n : Nat), .int ((keptN K (n : Nat)).length : Nat), .tup ((keptN K (n : Nat)).map fun i => .int (i : Nat))]) 60 500000 :=
    (Rp.tup (k := 59) (Rps.cons (Rp.int (by omega)) (Rps.cons (Rp.int (by omega)) (Rps.cons (rpt_nats (k := 58) (by omega) fun i hi => by have := keptN_le i hi; omega) Rps.nil)))).le (by omega)
  refine wp_fn rfl ?_
  unfold mdl at hm
  walk_at "wp"
  rw [pts_nil, show (((keptN K (n : Nat)).length : Nat) : Int) - (([] : List Nat).length : Nat) = ((keptN K (n : Nat)).length : Nat) from Int.sub_zero _]
  walk_at "wp"
  simp

/-! CZ: any values -/
theorem kit_dict_int : kitB "dict" "int" = some false := by decide +kernel
theorem wp_daM {i : Nat} {e : Ev.Env} {g : List Cell} {d : D} {P : D → List Cell → Prop} (h : e[i]? = some (.v d)) (k : P (.da [d]) g) : WR (daM i e g) P := by
  unfold daM varM
  rw [h]
  exact k
local macro_rules | `(tactic| walk_at "call") => `(tactic| with_reducible refine wp_daM (by with_unfolding_all rfl) ?_)
local macro_rules | `(tactic| walk_at "ex") => `(tactic| with_reducible refine Exists.intro _ (And.intro (rprF_A (by assumption) (by assumption)) ?_))
local macro_rules | `(tactic| walk_at "ex") => `(tactic| with_reducible refine Exists.intro _ (Exists.intro _ (And.intro (by with_unfolding_all rfl) (And.intro kit_dict_int ?_))))
/-- a number from 0 to m, no truth value -/
def numB (m : Int) : D → Bool
  | .int i => decide (0 ≤ i ∧ i ≤ m)
  | _ => false
/-- any value: k deep at most, its repr of s characters at most -/
def Any (d : D) (k s : Nat) : Prop := (∀ j, okr d (k + j) = true) ∧ szr d ≤ s
theorem Any.le {d : D} {k k' s s' : Nat} (h : Any d k s) (h1 : k ≤ k') (h2 : s ≤ s') : Any d k' s' := ⟨fun j => by have := h.1 (k' - k + j); rwa [show k + (k' - k + j) = k' + j by omega] at this, Nat.le_trans h.2 h2⟩
theorem Any.tup {d : D} {k s : Nat} (h : Any d k s) : Any (.tup [d]) (k + 1) (s + 11) := ⟨fun j => by
  have := h.1 j
  simp only [okr, okrs, Bool.and_true, Bool.and_eq_true, decide_eq_true_eq]
  exact ⟨by omega, by rw [show k + 1 + j - 1 = k + j by omega]; exact this⟩, by have := h.2; simp only [szr, szrs]; omega⟩
theorem Any.lst {d : D} {k s : Nat} (h : Any d k s) : Any (.lst [d]) (k + 1) (s + 11) := ⟨fun j => by
  have := h.1 j
  simp only [okr, okrs, Bool.and_true, Bool.and_eq_true, decide_eq_true_eq]
  exact ⟨by omega, by rw [show k + 1 + j - 1 = k + j by omega]; exact this⟩, by have := h.2; simp only [szr, szrs]; omega⟩
theorem Any.da {d : D} {k s : Nat} (h : Any d k s) : Any (.da [d]) (k + 1) (s + 11) := ⟨fun j => by
  have := h.1 j
  simp only [okr, okrs, Bool.and_true, Bool.and_eq_true, decide_eq_true_eq]
  exact ⟨by omega, by rw [show k + 1 + j - 1 = k + j by omega]; exact this⟩, by have := h.2; simp only [szr, szrs]; omega⟩
theorem Any.pair {d : D} {k s : Nat} {x : Str} (h : Any d k s) (hk : k ≤ 59) : okr (.tup [.str x, d]) 60 = true ∧ szr (.tup [.str x, d]) ≤ (reprText x).length + s + 20 := by
  have h1 := (h.le hk (Nat.le_refl _)).1 0
  refine ⟨?_, ?_⟩
  · simp only [okr, okrs, Bool.and_true, Bool.and_eq_true, decide_eq_true_eq]
    exact ⟨by omega, by simp, h1⟩
  · have := h.2
    simp only [szr, szrs]
    omega
theorem okrs_iff {n : Nat} : ∀ {xs : List D}, okrs xs n = true ↔ ∀ x ∈ xs, okr x n = true
  | [] => by simp [okrs]
  | x :: xs => by simp only [okrs, Bool.and_eq_true, List.mem_cons, forall_eq_or_imp, okrs_iff (xs := xs)]
theorem szrs_append : ∀ (a b : List D), szrs (a ++ b) = szrs a + szrs b
  | [], b => by simp [szrs]
  | x :: a, b => by simp only [List.cons_append, szrs, szrs_append a b]; omega
theorem szrs_take (n : Nat) (a : List D) : szrs (a.take n) ≤ szrs a := by
  have := szrs_append (a.take n) (a.drop n)
  rw [List.take_append_drop] at this
  omega
theorem szrs_drop (n : Nat) (a : List D) : szrs (a.drop n) ≤ szrs a := by
  have := szrs_append (a.take n) (a.drop n)
  rw [List.take_append_drop] at this
  omega
theorem szrs_mem {x : D} : ∀ {a : List D}, x ∈ a → szr x + 7 ≤ szrs a
  | y :: a, h => by
    rcases List.mem_cons.mp h with rfl | h
    · simp only [szrs]; omega
    · have := szrs_mem h
      simp only [szrs]; omega
/-- any values, one by one -/
def Anys (xs : List D) (k s : Nat) : Prop := (∀ x ∈ xs, ∀ j, okr x (k + j) = true) ∧ szrs xs ≤ s
theorem Any.un {xs : List D} {k s : Nat} (h : Any (.tup xs) k s) : ∃ k', k = k' + 1 ∧ Anys xs k' s := by
  have h0 := h.1 0
  simp only [okr, Bool.and_eq_true, decide_eq_true_eq] at h0
  obtain ⟨k', rfl⟩ : ∃ k', k = k' + 1 := ⟨k - 1, by omega⟩
  refine ⟨k', rfl, fun x hx j => ?_, ?_⟩
  · have := h.1 j
    simp only [okr, Bool.and_eq_true, decide_eq_true_eq] at this
    rw [show k' + 1 + j - 1 = k' + j by omega] at this
    exact okrs_iff.mp this.2 x hx
  · have := h.2
    simp only [szr] at this
    omega
theorem Anys.tup {xs : List D} {k s : Nat} (h : Anys xs k s) : Any (.tup xs) (k + 1) (s + 4) := ⟨fun j => by
  simp only [okr, Bool.and_eq_true, decide_eq_true_eq]
  exact ⟨by omega, by rw [show k + 1 + j - 1 = k + j by omega]; exact okrs_iff.mpr fun x hx => h.1 x hx j⟩, by have := h.2; simp only [szr]; omega⟩
theorem Anys.lst {xs : List D} {k s : Nat} (h : Anys xs k s) : Any (.lst xs) (k + 1) (s + 4) := ⟨fun j => by
  simp only [okr, Bool.and_eq_true, decide_eq_true_eq]
  exact ⟨by omega, by rw [show k + 1 + j - 1 = k + j by omega]; exact okrs_iff.mpr fun x hx => h.1 x hx j⟩, by have := h.2; simp only [szr]; omega⟩
theorem Anys.append {xs ys : List D} {k s t : Nat} (h : Anys xs k s) (h2 : Anys ys k t) : Anys (xs ++ ys) k (s + t) := ⟨fun x hx => by
  rcases List.mem_append.mp hx with hx | hx
  · exact h.1 x hx
  · exact h2.1 x hx, by rw [szrs_append]; exact Nat.add_le_add h.2 h2.2⟩
theorem Anys.take {xs : List D} {k s : Nat} (n : Nat) (h : Anys xs k s) : Anys (xs.take n) k s := ⟨fun x hx => h.1 x (List.mem_of_mem_take hx), Nat.le_trans (szrs_take n xs) h.2⟩
theorem Anys.drop {xs : List D} {k s : Nat} (n : Nat) (h : Anys xs k s) : Anys (xs.drop n) k s := ⟨fun x hx => h.1 x (List.mem_of_mem_drop hx), Nat.le_trans (szrs_drop n xs) h.2⟩
theorem Anys.get {xs : List D} {k s : Nat} {x : D} (h : Anys xs k s) (hx : x ∈ xs) : Any x k s := ⟨h.1 x hx, by have := szrs_mem hx; have := h.2; omega⟩
theorem Anys.nil {k : Nat} : Anys [] k 0 := ⟨fun _ h => (nomatch h), Nat.le_refl _⟩
theorem Anys.one {x : D} {k s : Nat} (h : Any x k s) : Anys [x] k (s + 7) := ⟨fun y hy => by rw [List.mem_singleton.mp hy]; exact h.1, by have := h.2; simp only [szrs]; omega⟩
theorem Anys.cons {x : D} {xs : List D} {k s t : Nat} (h : Any x k s) (h2 : Anys xs k t) : Anys (x :: xs) k (s + 7 + t) := (Anys.one h).append h2
theorem Anys.le {xs : List D} {k k' s s' : Nat} (h : Anys xs k s) (h1 : k ≤ k') (h2 : s ≤ s') : Anys xs k' s' := ⟨fun x hx j => by have := h.1 x hx (k' - k + j); rwa [show k + (k' - k + j) = k' + j by omega] at this, Nat.le_trans h.2 h2⟩
mutual
/-- how deep tuples stand in one another -/
def tdp : D → Nat
  | .tup xs => tdps xs + 1
  | _ => 0
def tdps : List D → Nat
  | [] => 0
  | x :: xs => max (tdp x) (tdps xs)
end
mutual
/-- made of ints and tuples -/
def plv : D → Bool
  | .tup xs => plvs xs
  | .int _ => true
  | _ => false
def plvs : List D → Bool
  | [] => true
  | x :: xs => plv x && plvs xs
end
/-- an integer from 0, no truth value -/
def nnB : D → Bool
  | .int i => decide (0 ≤ i)
  | _ => false
theorem log2_small {i : Int} (h : -100000000000000000000 ≤ i ∧ i ≤ 100000000000000000000) : i.natAbs.log2 < 128 := by
  by_cases z : i.natAbs = 0
  · rw [z]; decide
  · exact (Nat.log2_lt z).mpr (Nat.lt_of_le_of_lt (show i.natAbs ≤ 100000000000000000000 by omega) (by decide))
theorem Any.int {i : Int} {k : Nat} (h : -100000000000000000000 ≤ i ∧ i ≤ 100000000000000000000) : Any (.int i) k 130 := ⟨fun j => by
  have := log2_small h
  simp only [okr, decide_eq_true_eq]
  omega, by have := log2_small h; simp only [szr]; omega⟩
theorem Any.non {k : Nat} : Any .non k 4 := ⟨fun _ => rfl, Nat.le_refl _⟩
theorem Any.bl {b : Bool} {k : Nat} : Any (.bl b) k 5 := ⟨fun _ => rfl, Nat.le_refl _⟩
/-! CT: exceptions, any values -/
theorem wp_noM {α : Type} {m : M α} {e : Ev.Env} {g : List Cell} {P : α → List Cell → Prop} (h : WR (m e g) P) : WR (noM m e g) P := by
  unfold noM
  cases q : m e g <;> rw [q] at h <;> first | exact h | exact h.elim
theorem wp_isX {NE : Nat} {t : Nat → Bool} {m : M D} {e : Ev.Env} {g : List Cell} {P : D → List Cell → Prop} (h : WR (m e g) fun d g1 => ∃ r, isXD NE t d g1 = some r ∧ P r g1) : WR (unM (isXD NE t) m e g) P := wp_un h
theorem wp_valX {NE : Nat} {m : M D} {e : Ev.Env} {g : List Cell} {P : D → List Cell → Prop} (h : WR (m e g) fun d g1 => ∃ r, valX NE d g1 = some r ∧ P r g1) : WR (unM (valX NE) m e g) P := wp_un h
theorem wp_told {N n : Nat} {body : (List Cell → R D) → MS} {mb : M D} {e : Ev.Env} {g : List Cell} {P : D → List Cell → Prop} (hg : g[n]? = some (.tbl n)) (h : WR (fnM 0 N (body fun g' => mb e g') [] g) P) : WR (toldM N body n mb e g) P := by
  unfold toldM
  rw [hg]
  simp only [if_true]
  exact h
theorem wp_tryX {NE i j c : Nat} {m : MS} {e : Ev.Env} {g g1 : List Cell} {x : D} {N : Ev.Env → List Cell → Prop} {T : D → List Cell → Prop} {B C : Ev.Env → List Cell → Prop} (h : m e g = .ex c x g1) (hc : c < NE) (k : N ((e.set j (.v (.exc c x))).set i .no) g1) : WS (tryHS NE i j m e g) N T B C := by
  unfold tryHS
  rw [h]
  simp only [hc, if_true]
  exact k
theorem act_ex {call : List Cell → R D} {e : Ev.Env} {g g1 : List Cell} {c : Nat} {x : D} (h : call g = .ex c x g1) : exprS (actM call) e g = .ex c x g1 := by
  unfold exprS actM
  rw [h]
  rfl
local macro_rules | `(tactic| walk_at "call") => `(tactic| with_reducible refine wp_noM ?_)
local macro_rules | `(tactic| walk_at "call") => `(tactic| with_reducible refine wp_isX ?_)
local macro_rules | `(tactic| walk_at "call") => `(tactic| with_reducible refine wp_valX ?_)

/-! CJ: any values and stores -/
theorem is_number_any {d : D} {m : Int} {g : List Cell} {k : Nat} (h : okr d k = true) : WR (p_is_number [d, .int m] g) fun r g' => g' = g ∧ r = .bl (numB m d) := by
  cases d with
  | int i => exact is_number_wp
  | non => refine wp_fn rfl ?_; walk_at "wp"; rfl
  | bl b => refine wp_fn rfl ?_; walk_at "wp"; rfl
  | str x => refine wp_fn rfl ?_; walk_at "wp"; rfl
  | tup x => refine wp_fn rfl ?_; walk_at "wp"; rfl
  | lst x => refine wp_fn rfl ?_; walk_at "wp"; rfl
  | da x => refine wp_fn rfl ?_; walk_at "wp"; rfl
  | _ => simp [okr] at h

/-! CL: stores: members, losses, restores, distances -/
def p_Store_contains : List D → List Cell → R D := fnM 2 6 (seqS (asgS (unM (cobD 2) (varM 0)) (tgT 4 (tgs1 (tgN 2) (tgs1 (tgN 3) (tgs1 (tgN 4) (tgs1 (tgN 5) (tgs0)))))))
    (retS (andV (callM 2 p_is_number (consM (varM 1) (consM (conM .non) (nilM)))) (andV (two (kRuIn false p_Rule_contains) (tupM (consM (varM 1) (consM (varM 2) (nilM)))) (varM 4)) (opM (inD true) (seeM 1) (seeM 5))))))
def p_Store_lose : List D → List Cell → R D := fnM 2 6 (seqS (ifS (boolM (two (kObIn 2 true p_Store_contains) (varM 1) (varM 0)))
    (badS)
    (skipS))
    (seqS (asgS (unM (cobD 2) (varM 0)) (tgT 4 (tgs1 (tgN 2) (tgs1 (tgN 3) (tgs1 (tgN 4) (tgs1 (tgN 5) (tgs0)))))))
    (exprS (mthM 2 5 p_Store_set_state (varM 0) (consM (varM 2) (consM (varM 3) (consM (varM 4) (consM (tupM (starM (varM 5) (consM (varM 1) (nilM)))) (nilM)))))))))
def p_Store_restore : List D → List Cell → R D := fnM 2 7 (seqS (asgS (unM (cobD 2) (varM 0)) (tgT 4 (tgs1 (tgN 3) (tgs1 (tgN 4) (tgs1 (tgN 5) (tgs1 (tgN 6) (tgs0)))))))
    (seqS (ifS (notB (boolM (callM 2 p_is_number (consM (varM 1) (consM (varM 3) (nilM))))))
    (badS)
    (skipS))
    (seqS (asgS (callM 3 p_restore_point (consM (varM 5) (consM (varM 3) (consM (varM 1) (nilM))))) (tgN 2))
    (seqS (whL (andB (boolM (opM notND (seeM 2) (conM .non))) (boolM (opM (inD false) (seeM 2) (seeM 6))))
    (asgS (ifV (boolM (opM gtD (seeM 2) (conM (.int 0)))) (callM 3 p_restore_point (consM (varM 5) (consM (varM 3) (consM (opM addD (opM subD (seeM 3) (seeM 2)) (conM (.int 1))) (nilM))))) (conM .non)) (tgN 2)) 100000)
    (retS (varM 2))))))
def p_Store_distance : List D → List Cell → R D := fnM 2 3 (seqS (asgS (mthM 2 2 p_Store_restore (varM 0) (consM (varM 1) (nilM))) (tgN 2))
    (retS (ifV (boolM (opM notND (seeM 2) (conM .non))) (opM subD (opM subD (prpM 2 p_Store_tick (varM 0)) (seeM 2)) (seeM 1)) (conM .non))))
/-- the store has a point -/
def Has (K : List Lf) (t : Int) (lost : List Nat) (p : Int) : Prop := Kp K t p ∧ p.toNat ∉ lost
instance {K : List Lf} {t : Int} {lost : List Nat} {p : Int} : Decidable (Has K t lost p) := inferInstanceAs (Decidable (_ ∧ _))
/-- the lost points are kept ones, each once -/
structure Lok (K : List Lf) (t : Int) (lost : List Nat) : Prop where
  kp : ∀ i ∈ lost, Kp K t (i : Nat)
  nd : lost.Nodup
theorem Lok.nil {K : List Lf} {t : Int} : Lok K t [] := ⟨fun _ h => (nomatch h), List.nodup_nil⟩
theorem Lok.same {K : List Lf} {t : Int} {lost : List Nat} (h : Lok K t lost) : (lost.filter fun i => decide (Kp K t (i : Nat))) = lost := List.filter_eq_self.mpr fun i hi => decide_eq_true (h.kp i hi)
theorem Lok.push {K : List Lf} {t : Int} {lost : List Nat} {p : Nat} (h : Lok K t lost) (hp : Has K t lost (p : Nat)) : Lok K t (lost ++ [p]) := by
  have hp2 : p ∉ lost := hp.2
  refine ⟨fun i hi => ?_, List.nodup_append.mpr ⟨h.nd, List.nodup_cons.mpr ⟨fun z => (nomatch z), List.nodup_nil⟩, fun a ha b hb => ?_⟩⟩
  · rcases List.mem_append.mp hi with q | q
    · exact h.kp i q
    · rw [List.mem_singleton.mp q]; exact hp.1
  · rw [List.mem_singleton.mp hb]
    exact fun z => hp2 (z ▸ ha)
theorem is_from_wp {g : List Cell} {n : Int} : WR (p_is_number [.int n, .non] g) fun d g' => g' = g ∧ d = .bl (decide (0 ≤ n)) := by
  refine wp_fn rfl ?_
  walk_at "wp"
  all_goals walk_at "dec"
theorem in_lost {p : Int} {lost : List Nat} (neg : Bool) (h0 : 0 ≤ p) {g : List Cell} : inD neg (.int p) (.tup (lost.map fun i => .int (i : Nat))) g = some (.bl (if neg = true then !decide (p.toNat ∈ lost) else decide (p.toNat ∈ lost))) := by
  have e : decide (p ∈ lost.map fun i : Nat => (i : Int)) = decide (p.toNat ∈ lost) := decide_eq_decide.mpr (by
    rw [List.mem_map]
    exact ⟨fun ⟨y, h1, h2⟩ => by rw [show p.toNat = y by omega]; exact h1, fun h => ⟨p.toNat, h, by omega⟩⟩)
  cases neg with
  | true =>
    have h := nin_ints (x := p) (ns := lost.map fun i : Nat => (i : Int)) (g := g)
    rw [List.map_map, e] at h
    exact h
  | false =>
    have h := in_ints (x := p) (ns := lost.map fun i : Nat => (i : Int)) (g := g)
    rw [List.map_map, e] at h
    exact h
theorem has_wp {g : List Cell} {k c c' : Nat} {F K : List Lf} {now p : Int} {lost : List Nat} (h : g[k]? = some (.ob 2 (stoD now c F c' K lost))) (hc : c' < 2) (hK : Rul K) : WR (p_Store_contains [.g k, .int p] g) fun d g' => g' = g ∧ d = .bl (decide (Has K now lost p)) := by
  have h1 := hK.ne
  have h2 := hK.most
  refine wp_fn rfl ?_
  by_cases p0 : 0 ≤ p
  · walk_at "wp"
    refine WR.eqv is_from_wp ?_
    rw [decide_eq_true p0]
    by_cases q : Kp K now p
    · walk_at "wp"
      refine ⟨_, in_lost true p0, ?_⟩
      walk_at "wp"
      apply congrArg
      show (!decide (p.toNat ∈ lost)) = _
      rw [← decide_not]
      exact decide_eq_decide.mpr ⟨fun z => ⟨q, z⟩, fun z => z.2⟩
    · walk_at "wp"
      apply congrArg
      exact (decide_eq_false fun z => q z.1).symm
  · walk_at "wp"
    refine WR.eqv is_from_wp ?_
    rw [decide_eq_false p0]
    walk_at "wp"
    apply congrArg
    exact (decide_eq_false fun z => p0 z.1.1).symm
theorem obIn_wp {g : List Cell} {k c c' : Nat} {F K : List Lf} {now p : Int} {lost : List Nat} {P : D → List Cell → Prop} (neg : Bool) (h : g[k]? = some (.ob 2 (stoD now c F c' K lost))) (hc : c' < 2) (hK : Rul K) (hP : P (.bl (if neg = true then !decide (Has K now lost p) else decide (Has K now lost p))) g) : WR (kObIn 2 neg p_Store_contains (.int p) (.g k) g) P := by
  unfold kObIn
  rw [if_pos (by rw [cob_at h]; rfl)]
  refine WR.bind ((has_wp h hc hK).mono fun d g1 ⟨e1, e2⟩ => ?_)
  subst e1 e2
  exact hP
theorem obIn_tt {g : List Cell} {k c c' : Nat} {F K : List Lf} {now p : Int} {lost : List Nat} {PB : Bool → List Cell → Prop} (h : g[k]? = some (.ob 2 (stoD now c F c' K lost))) (hc : c' < 2) (hK : Rul K) (hP : Br (Has K now lost p) PB g) : WR (kObIn 2 false p_Store_contains (.int p) (.g k) g) fun d g1 => ∃ b, d = .bl b ∧ PB b g1 := obIn_wp false h hc hK ⟨_, rfl, hP.dec⟩
theorem obIn_ff {g : List Cell} {k c c' : Nat} {F K : List Lf} {now p : Int} {lost : List Nat} {PB : Bool → List Cell → Prop} (h : g[k]? = some (.ob 2 (stoD now c F c' K lost))) (hc : c' < 2) (hK : Rul K) (hP : Br (Has K now lost p) (fun b g => PB (!b) g) g) : WR (kObIn 2 true p_Store_contains (.int p) (.g k) g) fun d g1 => ∃ b, d = .bl b ∧ PB b g1 := obIn_wp true h hc hK ⟨_, rfl, Br.dec (PB := fun b g => PB (!b) g) hP⟩
theorem obIn_d {g : List Cell} {k c c' : Nat} {F K : List Lf} {now p : Int} {lost : List Nat} {P : D → List Cell → Prop} (h : g[k]? = some (.ob 2 (stoD now c F c' K lost))) (hc : c' < 2) (hK : Rul K) (hP : P (.bl (decide (Has K now lost p))) g) : WR (kObIn 2 false p_Store_contains (.int p) (.g k) g) P := obIn_wp false h hc hK hP
theorem obIn_nd {g : List Cell} {k c c' : Nat} {F K : List Lf} {now p : Int} {lost : List Nat} {P : D → List Cell → Prop} (h : g[k]? = some (.ob 2 (stoD now c F c' K lost))) (hc : c' < 2) (hK : Rul K) (hP : P (.bl (!decide (Has K now lost p))) g) : WR (kObIn 2 true p_Store_contains (.int p) (.g k) g) P := obIn_wp true h hc hK hP
local macro_rules | `(tactic| walk_at "call") => `(tactic| with_reducible refine obIn_d (by assumption) (by first | assumption | decide) (by walk_at "rul") ?_)
local macro_rules | `(tactic| walk_at "call") => `(tactic| with_reducible refine obIn_nd (by assumption) (by first | assumption | decide) (by walk_at "rul") ?_)
local macro_rules | `(tactic| walk_at "call") => `(tactic| with_reducible refine obIn_tt (by assumption) (by first | assumption | decide) (by walk_at "rul") ?_)
local macro_rules | `(tactic| walk_at "call") => `(tactic| with_reducible refine obIn_ff (by assumption) (by first | assumption | decide) (by walk_at "rul") ?_)
/-- the youngest point up to b of which H holds -/
def ResQ (H : Int → Prop) (b : Int) : Option Int → Prop
  | none => ∀ p, p ≤ b → ¬ H p
  | some p => H p ∧ p ≤ b ∧ ∀ q, H q → q ≤ b → q ≤ p
theorem ResQ.uniq {H : Int → Prop} {b : Int} {o o' : Option Int} (h : ResQ H b o) (k : ResQ H b o') : o = o' := by
  cases o with
  | none =>
    cases o' with
    | none => rfl
    | some p => exact absurd k.1 (h p k.2.1)
  | some p =>
    cases o' with
    | none => exact absurd h.1 (k p h.2.1)
    | some q =>
      have h1 := h.2.2 q k.1 k.2.1
      have h2 := k.2.2 p h.1 h.2.1
      rw [show p = q by omega]
theorem ResQ.ex {H : Int → Prop} (h0 : ∀ p, H p → 0 ≤ p) (b : Int) : ∃ o, ResQ H b o := by
  have : ∀ n : Nat, ∀ b : Int, b < n → ∃ o, ResQ H b o := by
    intro n
    induction n with
    | zero => exact fun b hb => ⟨none, fun p hp z => by have := h0 p z; omega⟩
    | succ n ih =>
      intro b hb
      by_cases q : H b
      · exact ⟨some b, q, Int.le_refl _, fun _ _ h => h⟩
      · obtain ⟨o, ho⟩ := ih (b - 1) (by omega)
        refine ⟨o, ?_⟩
        cases o with
        | none =>
          intro p hp z
          by_cases e : p = b
          · exact q (e ▸ z)
          · exact ho p (by omega) z
        | some p =>
          refine ⟨ho.1, by have := ho.2.1; omega, fun r hr hb => ?_⟩
          by_cases e : r = b
          · exact absurd (e ▸ hr) q
          · exact ho.2.2 r hr (by omega)
  exact this (b + 1).toNat b (by omega)
/-- what a restore gives -/
noncomputable def resS (K : List Lf) (t : Int) (lost : List Nat) (a : Int) : Option Int := Classical.choose (ResQ.ex (H := Has K t lost) (fun _ h => h.1.1) (t - a))
noncomputable def gapS (K : List Lf) (t : Int) (lost : List Nat) (a : Int) : Option Int := (resS K t lost a).map fun p => t - p - a
def cntL (lost : List Nat) : Option Int → Nat
  | none => 0
  | some p => (lost.filter fun i : Nat => decide ((i : Int) ≤ p)).length + 1
theorem store_go {g : List Cell} {c : Nat} {F : List Lf} {t : Int} {P : D → List Cell → Prop} (h0 : 0 ≤ t) (h1 : t ≤ 1000000000000000000) (h : P (stoD t c F c F []) g) : ([ruD c F].length = 1 ∧ [D.int t].length = 1) ∧ WR (inP 3 p_Store_init ([ruD c F] ++ [D.int t]) g) P := ⟨⟨rfl, rfl⟩, WR.eqv (store_at h0 h1) h⟩
local macro_rules | `(tactic| walk_at "ex") => `(tactic| with_reducible refine store_go (by walk_at "om") (by walk_at "om") ?_)

def q_oddv : List D → List Cell → R D := fnM 1 4 (seqS (ownS (fitM (consM (conM .non) (consM (conM (.bl true)) (consM (conM (.bl false)) (consM (conM (.int 0)) (consM (conM (.int 1)) (consM (unM negD (conM (.int 1))) (consM (conM (.int 5)) (consM (conM (.int 1000000000000000000)) (consM (opM addD (conM (.int 1000000000000000000)) (conM (.int 1))) (consM (conM (.str "")) (consM (conM (.str "4")) (consM (tupM (nilM)) (consM (valM (fitM (nilM))) (consM (conM (.da [])) (consM (tupM (consM (conM (.int 4)) (nilM))) (consM (valM (fitM (consM (conM (.int 4)) (nilM)))) (nilM)))))))))))))))))) 1)
    (seqS (frzS 1 (asgS (callM 2 q_ofv (consM (varM 0) (consM (varM 1) (nilM)))) (tgN 2)))
    (seqS (forS (rngIt (consM (callM 2 q_ofv (consM (varM 0) (consM (valM (fitM (consM (conM (.int 0)) (consM (conM (.int 0)) (consM (conM (.int 0)) (consM (conM (.int 1)) (consM (conM (.int 25)) (nilM)))))))) (nilM)))) (nilM))) (tgN 3)
    (asgS (opM ixD (valM (fitM (consM (tupM (consM (varM 2) (nilM))) (consM (valM (fitM (consM (varM 2) (nilM)))) (consM (daM 2) (nilM)))))) (callM 2 q_takevv (consM (varM 0) (consM (conM (.int 3)) (nilM))))) (tgN 2)))
    (retS (varM 2)))))
def q_is_integer : List D → List Cell → R D := fnM 2 2 (retS (andV (unM (isiD "int") (varM 0)) (andV (notV (unM (isiD "bool") (varM 0))) (chM leD leD (conM (.int 0)) (seeM 0) (seeM 1)))))
def q_refusal (call : List Cell → R D) : MS := seqS (parSF 2 3 (conM .non) (fitM (nilM)))
    (seqS (tryHS 1 1 2 (exprS (actM call)))
    (seqS (ifS (boolM (unM (isXD 1 (fun _ => true)) (varM 2)))
    (appendS 3 (tupM (consM (conM (.str "ticks")) (consM (unM (valX 1) (varM 2)) (nilM)))))
    (skipS))
    (seqS (ifS (boolM (unM (isXD 1 (fun _ => false)) (varM 2)))
    (appendS 3 (tupM (consM (conM (.str "age")) (consM (unM (valX 1) (varM 2)) (nilM)))))
    (skipS))
    (seqS (ifS (boolM (unM (isXD 1 (fun _ => false)) (varM 2)))
    (appendS 3 (tupM (consM (conM (.str "kept")) (consM (unM (valX 1) (varM 2)) (nilM)))))
    (skipS))
    (seqS (ifS (boolM (unM (isXD 1 (fun _ => false)) (varM 2)))
    (appendS 3 (tupM (consM (conM (.str "other")) (consM (unM (valX 1) (varM 2)) (nilM)))))
    (skipS))
    (seqS (ifS (boolM (unM (isXD 1 (fun _ => false)) (varM 2)))
    (appendS 3 (tupM (consM (conM (.str "many")) (consM (unM (valX 1) (varM 2)) (nilM)))))
    (skipS))
    (seqS (ifS (boolM (unM (isXD 1 (fun _ => false)) (varM 2)))
    (appendS 3 (tupM (consM (conM (.str "lives")) (consM (unM (valX 1) (varM 2)) (nilM)))))
    (skipS))
    (seqS (ifS (boolM (opM isND (seeM 2) (conM .non)))
    (retS (tupM (consM (conM .non) (consM (conM .non) (nilM)))))
    (skipS))
    (retS (ifV (andB (boolM (opM eqA (bltM lenF (consM (seeM 3) (nilM))) (conM (.int 1)))) (boolM (unM (isXD 1 (fun _ => true)) (varM 2)))) (opM ixD (seeM 3) (conM (.int 0))) (tupM (consM (conM (.str "unlike")) (consM (conM .non) (nilM))))))))))))))
def p_Store_initv : List D → List Cell → R D := inM 3 (notB (boolM (callM 2 p_is_number (consM (varM 2) (consM (conM (.int 1000000000000000000)) (nilM)))))) (raiseS 0 (varM 2)) (tupM (consM (varM 2) (consM (varM 1) (consM (varM 1) (consM (tupM (nilM)) (nilM))))))
def q_right : List D → List Cell → R D := fnM 1 6 (seqS (asgS (callM 2 q_drawn_lives (consM (varM 0) (consM (conM (.int 7)) (nilM)))) (tgN 1))
    (seqS (asgS (cmM 0 2 p_Rule_of (conM (.cl 0)) (consM (varM 1) (nilM))) (tgN 2))
    (seqS (forS (seqIt (tupM (consM (callM 2 q_takevv (consM (varM 0) (consM (conM (.int 70)) (nilM)))) (consM (callM 1 q_oddv (consM (varM 0) (nilM))) (consM (callM 2 q_ofv (consM (varM 0) (consM (valM (fitM (consM (conM (.int 1000000000000000000)) (consM (opM addD (conM (.int 1000000000000000000)) (conM (.int 1))) (consM (unM negD (conM (.int 1))) (consM (opM subD (conM (.int 1000000000000000000)) (conM (.int 1))) (nilM))))))) (nilM)))) (nilM)))))) (tgN 3)
    (seqS (asgS (ifV (boolM (callM 2 q_is_integer (consM (varM 3) (consM (conM (.int 1000000000000000000)) (nilM))))) (tupM (consM (conM .non) (consM (conM .non) (nilM)))) (tupM (consM (conM (.str "ticks")) (consM (varM 3) (nilM))))) (tgN 4))
    (seqS (ifS (boolM (opM neA (bltM rprF (consM (toldM 4 q_refusal 0 (mkKM 2 1 1 (inP 3 p_Store_initv) (consM (varM 2) (nilM)) (consM (varM 3) nilM))) (nilM))) (bltM rprF (consM (seeM 4) (nilM)))))
    (retS (conM (.bl false)))
    (skipS))
    (ifS (boolM (opM eqT (seeM 4) (tupM (consM (conM .non) (consM (conM .non) (nilM))))))
    (seqS (asgS (noM (mkKM 2 1 1 (inP 3 p_Store_initv) (consM (varM 2) (nilM)) (consM (varM 3) nilM))) (tgN 5))
    (seqS (ifS (orB (boolM (opM neA (bltM rprF (consM (prpM 2 p_Store_tick (varM 5)) (nilM))) (bltM rprF (consM (seeM 3) (nilM))))) (boolM (two (kRuE true p_Rule_eq) (prpM 2 p_Store_rule (varM 5)) (varM 2))))
    (retS (conM (.bl false)))
    (skipS))
    (seqS (ifS (boolM (opM neA (two (kObIn 2 false p_Store_contains) (varM 3) (varM 5)) (opM neA (callM 2 q_lifev (consM (varM 1) (consM (varM 3) (nilM)))) (conM (.int 0)))))
    (retS (conM (.bl false)))
    (skipS))
    (ifS (andB (boolM (opM ltD (seeM 3) (conM (.int 200)))) (notB (boolM (callM 2 q_is_same (consM (varM 5) (consM (callM 2 q_model_of (consM (varM 1) (consM (varM 3) (nilM)))) (nilM)))))))
    (retS (conM (.bl false)))
    (skipS)))))
    (skipS)))))
    (retS (callM 2 q_is_same (consM (noM (mkCM 2 (inD0 3 [.int 0] p_Store_initv) (consM (varM 2) (nilM)))) (consM (callM 2 q_model_of (consM (varM 1) (consM (conM (.int 0)) (nilM)))) (nilM))))))))
def q_law : List D → List Cell → R D := fnM 1 4 (seqS (forS (rngIt (consM (bltM maxF (consM (conM (.int 1)) (consM (bltM minF (consM (conM (.int 3)) (consM (bltM lenF (consM (seeM 0) (nilM))) (nilM)))) (nilM)))) (nilM))) (tgN 1)
    (seqS (asgS (callM 2 q_pot_of (consM (varM 0) (consM (varM 1) (nilM)))) (tgN 2))
    (ifS (notB (boolM (bltM allF (consM (valM (lcM (rngIt (consM (conM (.int 8)) (nilM))) (tgN 3) (yesB) (callM 1 q_right (consM (varM 2) (nilM))) [3])) (nilM)))))
    (retS (conM (.bl false)))
    (skipS))))
    (retS (conM (.bl true))))
theorem wr_get {r : R D} {v : D} {g0 : List Cell} (h : WR r fun d g => g = g0 ∧ d = v) : r = .ok v g0 := by
  obtain ⟨d, g, e, h1, h2⟩ := h.ex
  rw [e, h1, h2]
theorem is_integer28 {d : D} {g : List Cell} {k : Nat} (h : okr d k = true) : WR (q_is_integer [d, .int 1000000000000000000] g) fun r g' => g' = g ∧ r = .bl (numB 1000000000000000000 d) := by
  cases d with
  | int i =>
    refine wp_fn rfl ?_
    walk_at "wp"
    · rename_i q
      show D.bl (decide (i ≤ 1000000000000000000)) = D.bl (decide (0 ≤ i ∧ i ≤ 1000000000000000000))
      exact congrArg D.bl (decide_eq_decide.mpr ⟨fun h => ⟨q, h⟩, fun h => h.2⟩)
    · rename_i q
      show D.bl false = D.bl (decide (0 ≤ i ∧ i ≤ 1000000000000000000))
      exact congrArg D.bl (decide_eq_false fun z => q z.1).symm
  | non => refine wp_fn rfl ?_; walk_at "wp"; rfl
  | bl b => refine wp_fn rfl ?_; walk_at "wp"; rfl
  | str x => refine wp_fn rfl ?_; walk_at "wp"; rfl
  | tup x => refine wp_fn rfl ?_; walk_at "wp"; rfl
  | lst x => refine wp_fn rfl ?_; walk_at "wp"; rfl
  | da x => refine wp_fn rfl ?_; walk_at "wp"; rfl
  | _ => simp [okr] at h
theorem refusal_bad {call : List Cell → R D} {g g1 : List Cell} {x : D} (h : call g = .ex 0 x g1) : WR (fnM 0 4 (q_refusal call) [] g) fun d g' => g' = g1 ∧ d = .tup [.str "ticks", x] := by
  refine wp_fn rfl ?_
  unfold q_refusal
  walk_at "wp"
  refine wp_tryX (act_ex h) (by decide) ?_
  walk_at "wp"
  rename_i q
  exact absurd rfl q
theorem odd_wp {g : List Cell} {n B : Nat} (h : Pot g n B) (hB : 60 ≤ B) : WR (q_oddv [.g n] g) fun d g' => Any d 30 1000 ∧ Pot g' n (B - 60) ∧ But n g g' := by
  refine wp_fn rfl ?_
  walk_at "wp"
  refine (ofC_wp h (by omega) (by walk_at "om") (by walk_at "om")).mono fun d g1 ⟨hd, hp1, hb1⟩ => ?_
  have hd0 : Any d 3 100 := by
    simp only [List.mem_cons, List.not_mem_nil, or_false] at hd
    rcases hd with rfl | rfl | rfl | rfl | rfl | rfl | rfl | rfl | rfl | rfl | rfl | rfl | rfl | rfl | rfl | rfl
    all_goals refine ⟨fun j => ?_, by decide +kernel⟩
    all_goals first
      | rfl
      | (simp only [okr, okrs, Bool.and_true, Bool.and_eq_true, decide_eq_true_eq]; first | omega | (refine ⟨by omega, ?_⟩; decide) | decide)
  clear hd
  walk_at "wp"
  refine (ofC_int (B := B - 1) 0 25 hp1 (by omega) (by walk_at "om") (by walk_at "om") (by walk_at "ints")).mono fun d2 g2 ⟨m, e, ⟨m0, m1⟩, hp2, hb2⟩ => ?_
  subst e
  have hb12 := hb1.trans hb2
  walk_at "wp"
  refine wp_forL (fun i e g' => Pot g' n (B - 2 - i) ∧ But n g g' ∧ ∃ (v : D) (a b : Ev.Slot), e = [.v (.g n), a, .v v, b] ∧ Any v (3 + i) (100 + 11 * i)) ⟨hp2, hb12, d, _, _, rfl, hd0⟩ ?_ ?_
  · rintro i d e g3 hi ⟨hp, hbb, v, a, b, rfl, hv⟩
    obtain ⟨hi, rfl⟩ := rngL_get hi
    have hi : i < 25 := by omega
    refine ⟨_, rfl, ?_⟩
    show WS _ _ _ _ _
    walk_at "wp"
    rename_i g4 r r0 r1 hp4 hb4
    obtain ⟨y, hy, e⟩ := atI_mem (ds := [D.tup [v], D.lst [v], D.da [v]]) (i := r) r0 (by simp only [List.length_cons, List.length_nil]; omega)
    refine ⟨y, e, ?_⟩
    walk_at "wp"
    refine ⟨hbb.trans hb4, _, _, _, rfl, ?_⟩
    simp only [List.mem_cons, List.not_mem_nil, or_false] at hy
    rcases hy with rfl | rfl | rfl
    · exact hv.tup.le (by omega) (by omega)
    · exact hv.lst.le (by omega) (by omega)
    · exact hv.da.le (by omega) (by omega)
  · rintro e g3 ⟨hp, hbb, v, a, b, rfl, hv⟩
    rw [rngL_length] at hp hv
    walk_at "wp"
    exact ⟨hv.le (by omega) (by omega), hp.less (by omega), hbb⟩

theorem wp_tryN {NE i j : Nat} {m : MS} {e e1 : Ev.Env} {g g1 : List Cell} {N : Ev.Env → List Cell → Prop} {T : D → List Cell → Prop} {B C : Ev.Env → List Cell → Prop} (h : m e g = .nx e1 g1) (k : N e1 g1) : WS (tryHS NE i j m e g) N T B C := by
  unfold tryHS
  rw [h]
  exact k
theorem refusal_ok {call : List Cell → R D} {g g1 : List Cell} {x : D} (h : call g = .ok x g1) : WR (fnM 0 4 (q_refusal call) [] g) fun d g' => g' = g1 ∧ d = .tup [.non, .non] := by
  refine wp_fn rfl ?_
  unfold q_refusal
  walk_at "wp"
  refine wp_tryN (g1 := g1) (by unfold exprS actM; rw [h]; rfl) ?_
  walk_at "wp"
theorem store_bad {g : List Cell} {c j : Nat} {F : List Lf} {d : D} {e : Ev.Env} {ma mk : M (List D)} (ha : ma e g = .ok [ruD c F] g) (hb : mk e g = .ok [d] g) (h : okr d j = true) (hn : numB 1000000000000000000 d = false) :
    mkKM 2 1 1 (inP 3 p_Store_initv) ma mk e g = .ex 0 d g := by
  have h1 := wr_get (is_number_any (m := 1000000000000000000) (g := g) h)
  rw [hn] at h1
  have h2 : (notB (boolM (callM 2 p_is_number (consM (varM 2) (consM (conM (.int 1000000000000000000)) nilM))))) (inE 3 [ruD c F, d]) g = .ok true g := by
    have h3 : callM 2 p_is_number (consM (varM 2) (consM (conM (.int 1000000000000000000)) nilM)) (inE 3 [ruD c F, d]) g = .ok (.bl false) g := by
      show (p_is_number [d, .int 1000000000000000000] g) = _
      exact h1
    unfold notB boolM
    rw [h3]
    rfl
  have h4 : p_Store_initv [ruD c F, d] g = .ex 0 d g := by
    unfold p_Store_initv inM
    rw [h2]
    rfl
  unfold mkKM
  rw [ha]
  show (mk e g).bind _ = _
  rw [hb]
  show (if [ruD c F].length = 1 ∧ [d].length = 1 then (inP 3 p_Store_initv [ruD c F, d] g).bind (fun d g3 => R.ok (D.g g3.length) (g3 ++ [Cell.ob 2 d])) else .bad) = _
  rw [if_pos (show [ruD c F].length = 1 ∧ [d].length = 1 from ⟨rfl, rfl⟩)]
  show (inP 3 p_Store_initv [ruD c F, d] g).bind _ = _
  unfold inP
  rw [if_pos (show [ruD c F, d].length + 1 = 3 from rfl), h4]
  rfl
theorem storeX_at {g : List Cell} {c : Nat} {F : List Lf} {t : Int} (h0 : 0 ≤ t) (h1 : t ≤ 1000000000000000000) : WR (inP 3 p_Store_initv [ruD c F, .int t] g) fun d g' => g' = g ∧ d = stoD t c F c F [] := by
  unfold inP
  rw [if_pos (show [ruD c F, D.int t].length + 1 = 3 from rfl)]
  refine wp_in ?_
  walk_at "wp"
  refine ⟨by rw [decide_eq_true ⟨h0, h1⟩]; rfl, ?_⟩
  walk_at "wp"
  rfl
theorem Pot.app {g l : List Cell} {n B : Nat} (h : Pot g n B) : Pot (g ++ l) n B := by
  obtain ⟨a, b, c, q, q2⟩ := h
  exact ⟨a, b, c, by rw [List.getElem?_append_left (List.getElem?_eq_some_iff.mp q).1]; exact q, q2⟩
theorem get_app {g l : List Cell} {k : Nat} {c : Cell} (h : g[k]? = some c) : (g ++ l)[k]? = some c := by
  rw [List.getElem?_append_left (List.getElem?_eq_some_iff.mp h).1]
  exact h
theorem storeX_go {g : List Cell} {c : Nat} {F : List Lf} {t : Int} {P : D → List Cell → Prop} (h0 : 0 ≤ t) (h1 : t ≤ 1000000000000000000) (h : P (stoD t c F c F []) g) : ([ruD c F].length = 1 ∧ [D.int t].length = 1) ∧ WR (inP 3 p_Store_initv ([ruD c F] ++ [D.int t]) g) P := ⟨⟨rfl, rfl⟩, WR.eqv (storeX_at h0 h1) h⟩
theorem storeX_new {g : List Cell} {c : Nat} {F : List Lf} : WR (inD0 3 [.int 0] p_Store_initv [ruD c F] g) fun d g' => g' = g ∧ d = stoD 0 c F c F [] := by
  unfold inD0
  rw [if_pos (show [ruD c F].length + [D.int 0].length + 1 = 3 from rfl)]
  exact storeX_at (by decide) (by decide)
theorem has_now {L : List Lf} {z : Int} (hL : Given L) (z0 : 0 ≤ z) : Has (short L) z [] z ↔ lfp L z ≠ some 0 := by
  unfold Has Kp
  rw [lfp_short hL.ne]
  cases e : lfp L z with
  | none => exact ⟨fun _ q => (nomatch q), fun _ => ⟨⟨z0, Int.le_refl _, trivial⟩, by simp⟩⟩
  | some x =>
    have hx : 0 ≤ x := hL.nn x (by
      rw [← e, lfp_fl (L := L) (m := L.length) z (by omega)]
      exact at0_mem (by have := hL.ne; omega))
    constructor
    · rintro ⟨⟨_, _, h⟩, _⟩ q
      cases q
      have h : z - z + 1 ≤ 0 := h
      omega
    · intro q
      refine ⟨⟨z0, Int.le_refl _, ?_⟩, by simp⟩
      show z - z + 1 ≤ x
      have : x ≠ 0 := fun y => q (by rw [y])
      omega
theorem eq2_life {x : Lf} {P : Bool → List Cell → Prop} {g : List Cell} (h : P (decide (x = some 0)) g) : Eq2 (lfD x) (.int 0) P g := by
  cases x with
  | none => exact .inr ⟨false, rfl, h⟩
  | some x =>
    refine .inl ⟨x, 0, rfl, rfl, fun q => ?_, fun q => ?_⟩
    · rw [decide_eq_true (by rw [q])] at h; exact h
    · rw [decide_eq_false (fun z => q (Option.some.inj z))] at h; exact h
theorem right_wp {g : List Cell} {n B : Nat} (h : Pot g n B) (hB : 400 ≤ B) (h0 : g[0]? = some (.tbl 0)) (n0 : n ≠ 0) : WR (q_right [.g n] g) fun d g' => d = .bl true ∧ Pot g' n (B - 400) ∧ g'[0]? = some (.tbl 0) := by
  refine wp_fn rfl ?_
  walk_at "wp"
  refine (drawnC_wp h (by omega) (by omega) (by omega)).mono fun d g1 ⟨L, e, hl, hL, hLb, hp1, hb1⟩ => ?_
  subst e
  have hL1 := hL.ne
  have hL2 := hL.most
  have hLr := hL.rul
  walk_at "wp"
  rename_i g2 r r0 r1 hp2 hb2
  refine (odd_wp hp2 (by omega)).mono fun d3 g3 ⟨hd3, hp3, hb3⟩ => ?_
  walk_at "wp"
  refine (ofC_wp hp3 (by omega) (by walk_at "om") (by walk_at "om")).mono fun d4 g4 ⟨hd4, hp4, hb4⟩ => ?_
  have hb := ((hb1.trans hb2).trans hb3).trans hb4
  have h04 : g4[0]? = some (.tbl 0) := by rw [hb.2 0 (Ne.symm n0)]; exact h0
  walk_at "wp"
  refine wp_forL (fun i e g' => Pot g' n (B - 400) ∧ g'[0]? = some (.tbl 0) ∧ ∃ a b c : Ev.Slot, e = [.v (.g n), .v (lvD L), .v (ruD 0 (short L)), a, b, c]) ⟨hp4.less (by omega), h04, _, _, _, rfl⟩ ?_ ?_
  · rintro i d e g5 hd ⟨hp5, h05, a, b, c, rfl⟩
    have hd := List.mem_of_getElem? hd
    have ha : Any d 30 1000 := by
      simp only [List.mem_cons, List.not_mem_nil, or_false] at hd hd4
      rcases hd with rfl | rfl | rfl
      · exact ⟨fun j => decide_eq_true (by
          by_cases q : r.natAbs = 0
          · rw [q]; decide
          · exact Nat.lt_trans ((Nat.log2_lt q).mpr (show r.natAbs < 2 ^ 64 by omega)) (by decide)), by
          show r.natAbs.log2 + 2 ≤ 1000
          by_cases q : r.natAbs = 0
          · rw [q]; decide
          · have := (Nat.log2_lt q).mpr (show r.natAbs < 2 ^ 64 by omega)
            omega⟩
      · exact hd3
      · rcases hd4 with rfl | rfl | rfl | rfl
        all_goals exact ⟨fun j => by simp only [okr]; decide, by decide +kernel⟩
    clear hd hd4
    refine ⟨_, rfl, ?_⟩
    show WS _ _ _ _ _
    walk_at "wp"
    refine WR.eqv (is_integer28 (ha.1 0)) ?_
    cases hn : numB 1000000000000000000 d with
    | false =>
      obtain ⟨ho, hz⟩ := ha.pair (x := "ticks") (by decide)
      have hz : szr (.tup [.str "ticks", d]) ≤ 16777216 := Nat.le_trans hz (by decide +kernel)
      walk_at "wp"
      refine wp_told h05 (WR.eqv (refusal_bad (store_bad (d := d) (c := 0) (F := short L) rfl rfl (ha.1 0) hn)) ?_)
      walk_at "wp"
      exact ⟨_, _, _, rfl⟩
    | true =>
      obtain ⟨z, rfl, z0, z1⟩ : ∃ z : Int, d = .int z ∧ 0 ≤ z ∧ z ≤ 1000000000000000000 := by
        cases d with
        | int z => exact ⟨z, rfl, of_decide_eq_true hn⟩
        | _ => cases hn
      walk_at "wp"
      refine wp_told h05 (WR.eqv (refusal_ok (g1 := g5 ++ [.ob 2 (stoD z 0 (short L) 0 (short L) [])]) (x := .g g5.length) (wr_get (by walk_at "wp"; refine storeX_go z0 z1 ?_; exact ⟨rfl, rfl⟩))) ?_)
      walk_at "wp"
      rw [if_pos (show eqd (D.tup [D.non, D.non]) (D.tup [D.non, D.non]) = true from rfl)]
      walk_at "wp"
      refine storeX_go z0 z1 ?_
      have hs6 : ((g5 ++ [Cell.ob 2 (stoD z 0 (short L) 0 (short L) [])]) ++ [Cell.ob 2 (stoD z 0 (short L) 0 (short L) [])])[(g5 ++ [Cell.ob 2 (stoD z 0 (short L) 0 (short L) [])]).length]? = some (.ob 2 (stoD z 0 (short L) 0 (short L) [])) := by rw [List.getElem?_append_right (Nat.le_refl _), Nat.sub_self]; rfl
      have hp6 : Pot ((g5 ++ [Cell.ob 2 (stoD z 0 (short L) 0 (short L) [])]) ++ [Cell.ob 2 (stoD z 0 (short L) 0 (short L) [])]) n (B - 400) := Pot.app (Pot.app hp5)
      have h06 : ((g5 ++ [Cell.ob 2 (stoD z 0 (short L) 0 (short L) [])]) ++ [Cell.ob 2 (stoD z 0 (short L) 0 (short L) [])])[0]? = some (.tbl 0) := get_app (get_app h05)
      generalize (g5 ++ [Cell.ob 2 (stoD z 0 (short L) 0 (short L) [])]).length = k at hs6 ⊢
      generalize (g5 ++ [Cell.ob 2 (stoD z 0 (short L) 0 (short L) [])]) ++ [Cell.ob 2 (stoD z 0 (short L) 0 (short L) [])] = g6 at hs6 hp6 h06 ⊢
      walk_at "wp"
      refine eq2_life (eq2_bl (Br.yes ?_ ?_))
      · have hn := has_now hL z0
        by_cases q : lfp L z = some 0
        · rw [decide_eq_true q, decide_eq_false (fun y => hn.mp y q)]; rfl
        · rw [decide_eq_false q, decide_eq_true (hn.mpr q)]; rfl
      walk_at "wp"
      · obtain ⟨t, rfl⟩ : ∃ t : Nat, z = (t : Int) := ⟨z.toNat, by omega⟩
        refine (model_of_wp hL1 (by omega) (by omega)).mono fun d7 g7 ⟨e1, e2⟩ => ?_
        subst e1 e2
        have hs7 := get_app (l := [mdl t L (keptN L (t : Nat))]) hs6
        have hm7 : (g6 ++ [mdl t L (keptN L (t : Nat))])[g6.length]? = some (mdl t L (keptN (short L) (t : Nat))) := by
          rw [List.getElem?_append_right (Nat.le_refl _), Nat.sub_self, keptN_short hL1]
          rfl
        walk_at "wp"
        refine WR.eqv (is_same_wp hs7 hm7 (by decide) (by decide) hLr hL (by omega)) ?_
        walk_at "wp"
        exact ⟨Pot.app hp6, get_app h06, _, _, _, rfl⟩
      · exact ⟨_, _, _, rfl⟩
  · rintro e g5 ⟨hp5, h05, a, b, c, rfl⟩
    walk_at "wp"
    refine WR.eqv storeX_new ?_
    walk_at "wp"
    refine (model_of_wp (t := 0) hL1 (by omega) (by omega)).mono fun d7 g7 ⟨e1, e2⟩ => ?_
    subst e1 e2
    have hs7 : ((g5 ++ [Cell.ob 2 (stoD 0 0 (short L) 0 (short L) [])]) ++ [mdl 0 L (keptN L ((0 : Nat) : Int))])[g5.length]? = some (.ob 2 (stoD ((0 : Nat) : Int) 0 (short L) 0 (short L) [])) := by
      refine get_app ?_
      rw [List.getElem?_append_right (Nat.le_refl _), Nat.sub_self]
      rfl
    have hm7 : ((g5 ++ [Cell.ob 2 (stoD 0 0 (short L) 0 (short L) [])]) ++ [mdl 0 L (keptN L ((0 : Nat) : Int))])[(g5 ++ [Cell.ob 2 (stoD 0 0 (short L) 0 (short L) [])]).length]? = some (mdl 0 L (keptN (short L) ((0 : Nat) : Int))) := by
      rw [List.getElem?_append_right (Nat.le_refl _), Nat.sub_self, keptN_short hL1]
      rfl
    walk_at "wp"
    refine WR.eqv (is_same_wp hs7 hm7 (by decide) (by decide) hLr hL (by omega)) ?_
    exact ⟨rfl, Pot.app (Pot.app hp5), get_app (get_app h05)⟩
theorem law_true (ns : List Int) (hn : ns.length ≤ 63) : ∃ g, q_law [.sc ns] (tblG 1) = .ok (.bl true) g := by
  suffices h : WR (q_law [.sc ns] (tblG 1)) fun d g => d = .bl true by
    obtain ⟨d, g, e, rfl⟩ := h.ex
    exact ⟨g, e⟩
  have hT : (tblG 1)[0]? = some (.tbl 0) := rfl
  generalize tblG 1 = g0 at hT ⊢
  refine wp_fn rfl ?_
  walk_at "wp"
  have hm : (max 1 (min 3 (ns.length : Int))) ≤ 3 := by omega
  generalize max 1 (min 3 (ns.length : Int)) = m at hm ⊢
  refine wp_forL (fun i e g => g[0]? = some (.tbl 0) ∧ ∃ a b c, e = [.v (.sc ns), a, b, c]) ⟨hT, _, _, _, rfl⟩ ?_ ?_
  · rintro i d e g1 hd ⟨h1, a, b, c, rfl⟩
    obtain ⟨hi, rfl⟩ := rngL_get hd
    refine ⟨_, rfl, ?_⟩
    show WS _ _ _ _ _
    walk_at "wp"
    have hg1 : 0 < g1.length := (List.getElem?_eq_some_iff.mp h1).1
    refine (potC_wp (by omega) (by omega)).mono fun d g2 ⟨e, ⟨c2, e2⟩, hp⟩ => ?_
    subst e
    have h2 : g2[0]? = some (.tbl 0) := by rw [e2, List.getElem?_append_left hg1]; exact h1
    clear e2
    have hn0 : g1.length ≠ 0 := by omega
    generalize g1.length = n at hp hn0 ⊢
    walk_at "wp"
    refine lcTn (fun i g' => Pot g' n (4194304 - 400 * i) ∧ g'[0]? = some (.tbl 0)) ⟨hp, h2⟩ ?_ ?_
    · rintro j d g3 hd ⟨hp, h3⟩
      obtain ⟨hj, rfl⟩ := rngL_get hd
      have hj : j < 8 := hj
      refine ⟨_, rfl, ?_⟩
      show WR (callM 1 q_right _ [_, _, .v (.g n), _] _) _
      walk_at "wp"
      refine (right_wp hp (by omega) h3 hn0).mono fun d g2 ⟨e, hp, h4⟩ => ⟨e, hp.less (by omega), h4⟩
    · intro g3 ⟨_, h3⟩
      walk_at "wp"
      exact ⟨_, _, _, rfl⟩
  · rintro e g1 ⟨_, a, b, c, rfl⟩
    walk_at "wp"

end LW
namespace LW
open PySem PySem.Spec PyProof.Rows L2 Ev
def top (i : Nat) : Stmt := PySem.Challenge.pw_rulerkeep_k27_stores_made_or_refused.main.body.getD i (.Pass ⟨0, 0, 0, 0⟩)
abbrev t_q_pot_of : Stmt := top 50
abbrev t_q_takevv : Stmt := top 51
abbrev t_q_ofv : Stmt := top 52
abbrev t_q_drawn_lives : Stmt := top 53
abbrev t_p_is_integer : Stmt := top 35
abbrev t_p_Rule_are_lives : Stmt := inClass (top 47) 2
abbrev t_p_shortest : Stmt := top 40
abbrev t_p_Rule_init : Stmt := inClass (top 47) 1
abbrev t_p_Rule_of : Stmt := inClass (top 47) 3
abbrev t_q_oddv : Stmt := top 61
abbrev t_q_is_integer : Stmt := top 62
abbrev t_q_refusal : Stmt := top 63
abbrev t_p_is_number : Stmt := top 29
abbrev t_p_Store_initv : Stmt := inClass (top 30) 0
abbrev t_p_Store_tick : Stmt := inClass (top 30) 1
abbrev t_p_Rule_eq : Stmt := inClass (top 47) 5
abbrev t_p_Store_rule : Stmt := inClass (top 30) 2
abbrev t_p_is_at_least : Stmt := top 36
abbrev t_p_life_of : Stmt := top 39
abbrev t_p_rank : Stmt := top 12
abbrev t_p_Rule_contains : Stmt := inClass (top 47) 11
abbrev t_p_Store_contains : Stmt := inClass (top 30) 4
abbrev t_q_lifev : Stmt := top 54
abbrev t_p_Rule_len : Stmt := inClass (top 47) 6
abbrev t_p_oldest_kept : Stmt := top 17
abbrev t_p_multiples : Stmt := top 21
abbrev t_p_size_of : Stmt := top 11
abbrev t_p_ranked_up_to : Stmt := top 14
abbrev t_p_ranked : Stmt := top 15
abbrev t_p_kept_between : Stmt := top 22
abbrev t_p_kept_count : Stmt := top 23
abbrev t_p_Store_size : Stmt := inClass (top 30) 3
abbrev t_p_first_of : Stmt := top 18
abbrev t_p_gap_of : Stmt := top 19
abbrev t_p_kept : Stmt := top 20
abbrev t_p_Store_points : Stmt := inClass (top 30) 11
abbrev t_q_is_same : Stmt := top 60
abbrev t_q_lives_on : Stmt := top 55
abbrev t_q_model_of : Stmt := top 56
abbrev t_q_right : Stmt := top 64
abbrev t_q_law : Stmt := top 65
abbrev t_p_Rule_lives : Stmt := inClass (top 47) 4
abbrev t_x0 : Stmt := inClass (top 5) 0
structure Txt (P : Program) (W : Wd) (mg : Str → Option Value) where
  gx0 : mg "BadTicks" = some (.ref (W.ec 0))
  gx1 : mg "KeepError" = some (.ref (W.ec 1))
  gx2 : mg "BadAge" = some (.ref (W.ec 2))
  gx3 : mg "NotKept" = some (.ref (W.ec 3))
  gx4 : mg "OtherTick" = some (.ref (W.ec 4))
  gx5 : mg "TooMany" = some (.ref (W.ec 5))
  gx6 : mg "BadLives" = some (.ref (W.ec 6))
  x0 : DmE W.K mg (W.ec 0) "BadTicks.__init__" t_x0
  xs0 : SupP P x0.file
  exk : ∀ c, c < 1 → ExK W.K (W.ec c)
  hex : ∀ c, c < 1 → PySem.W.exmOne W.K (.ref (W.ec c)) (.ref (W.ec 1)) = some true
  isx0 : ∀ c, c < 1 → PySem.W.kitOne W.K (.ref (W.ec c)) (.ref (W.ec 0)) = some ((fun _ => true) c)
  isxn0 : PySem.W.kitOne W.K (.type "NoneType") (.ref (W.ec 0)) = some false
  isx2 : ∀ c, c < 1 → PySem.W.kitOne W.K (.ref (W.ec c)) (.ref (W.ec 2)) = some ((fun _ => false) c)
  isxn2 : PySem.W.kitOne W.K (.type "NoneType") (.ref (W.ec 2)) = some false
  isx3 : ∀ c, c < 1 → PySem.W.kitOne W.K (.ref (W.ec c)) (.ref (W.ec 3)) = some ((fun _ => false) c)
  isxn3 : PySem.W.kitOne W.K (.type "NoneType") (.ref (W.ec 3)) = some false
  isx4 : ∀ c, c < 1 → PySem.W.kitOne W.K (.ref (W.ec c)) (.ref (W.ec 4)) = some ((fun _ => false) c)
  isxn4 : PySem.W.kitOne W.K (.type "NoneType") (.ref (W.ec 4)) = some false
  isx5 : ∀ c, c < 1 → PySem.W.kitOne W.K (.ref (W.ec c)) (.ref (W.ec 5)) = some ((fun _ => false) c)
  isxn5 : PySem.W.kitOne W.K (.type "NoneType") (.ref (W.ec 5)) = some false
  isx6 : ∀ c, c < 1 → PySem.W.kitOne W.K (.ref (W.ec c)) (.ref (W.ec 6)) = some ((fun _ => false) c)
  isxn6 : PySem.W.kitOne W.K (.type "NoneType") (.ref (W.ec 6)) = some false
  isV : ∀ c, c < 1 → PySem.W.kitOne W.K (.ref (W.ec c)) (.type "ValueError") = some ((fun _ => true) c)
  isVn : PySem.W.kitOne W.K (.type "NoneType") (.type "ValueError") = some false
  q_pot_of : Df W.K mg "_law_pot_of" t_q_pot_of ["_law_script", "_law_k"]
  q_takevv : Df W.K mg "_law_take" t_q_takevv ["_law_pot", "_law_upto"]
  q_ofv : Df W.K mg "_law_of" t_q_ofv ["_law_pot", "_law_some"]
  q_drawn_lives : Df W.K mg "_law_drawn_lives" t_q_drawn_lives ["_law_pot", "_law_limit"]
  p_is_integer : DfD W.K mg "is_integer" t_p_is_integer ["value", "high"]
  p_Rule_are_lives : Dm W.K "are_lives" "Rule.are_lives" t_p_Rule_are_lives
  p_p_Rule_are_lives : Addr
  r_p_Rule_are_lives : SMet W.K (W.cl 0) (.type "type") "are_lives" p_p_Rule_are_lives p_Rule_are_lives.f
  b_p_Rule_are_lives : Binds W.K p_Rule_are_lives.fd ["value"] []
  p_shortest : Df W.K mg "shortest" t_p_shortest ["lives"]
  p_Rule_init : Dm W.K "__init__" "Rule.__init__" t_p_Rule_init
  m_p_Rule_init : Mk W.K (W.cl 0) p_Rule_init.f
  h_p_Rule_init : ∀ us rest : List Value, us.length = (["self"] : List Str).length → bindArgs p_Rule_init.fd ⟨us ++ rest, []⟩ = (newTuple rest >>= fun t => pure ((["self"] : List Str).zip us ++ [(("lives" : Str), t)]))
  p_Rule_of : Dm W.K "of" "Rule.of" t_p_Rule_of
  p_p_Rule_of : Addr
  r_p_Rule_of : ClX.CMet W.K (W.cl 0) (.type "type") "of" p_p_Rule_of p_Rule_of.f
  b_p_Rule_of : Binds W.K p_Rule_of.fd ["cls", "lives"] []
  q_oddv : Df W.K mg "_law_odd" t_q_oddv ["_law_pot"]
  q_is_integer : Df W.K mg "_law_is_integer" t_q_is_integer ["_law_value", "_law_limit"]
  q_refusal : Df W.K mg "_law_refusal" t_q_refusal ["_law_ask"]
  p_is_number : Df W.K mg "is_number" t_p_is_number ["value", "most"]
  p_Store_initv : DmK W.K "__init__" "Store.__init__" t_p_Store_initv [("tick", V.int 0)]
  m_p_Store_initv : Mk W.K (W.cl 2) p_Store_initv.f
  bd_p_Store_initv : ∃ ds, Vals [V.int 0] ds ∧ Binds W.K p_Store_initv.fd ["self", "rule", "tick"] ds
  bk_p_Store_initv : ∃ g, KBn W.K p_Store_initv.fd ["self", "rule", "tick"] 2 ["tick"] g (fun vs zs => vs ++ ([] ++ zs))
  p_Store_tick : Dm W.K "tick" "Store.tick" t_p_Store_tick
  b_p_Store_tick : Binds W.K p_Store_tick.fd ["self"] []
  pp_p_Store_tick : Addr
  q_p_Store_tick : PropOf W.K (W.cl 2) "tick" pp_p_Store_tick p_Store_tick.f
  p_Rule_eq : Dm W.K "__eq__" "Rule.__eq__" t_p_Rule_eq
  b_p_Rule_eq : Binds W.K p_Rule_eq.fd ["self", "other"] []
  om_p_Rule_eq : OwnM W "__eq__" p_Rule_eq.f
  oe_p_Rule_eq : OwnE W p_Rule_eq.f
  p_Store_rule : Dm W.K "rule" "Store.rule" t_p_Store_rule
  b_p_Store_rule : Binds W.K p_Store_rule.fd ["self"] []
  pp_p_Store_rule : Addr
  q_p_Store_rule : PropOf W.K (W.cl 2) "rule" pp_p_Store_rule p_Store_rule.f
  p_is_at_least : Df W.K mg "is_at_least" t_p_is_at_least ["life", "other"]
  p_life_of : Df W.K mg "life_of" t_p_life_of ["lives", "index"]
  p_rank : Df W.K mg "rank" t_p_rank ["point"]
  p_Rule_contains : Dm W.K "__contains__" "Rule.__contains__" t_p_Rule_contains
  b_p_Rule_contains : Binds W.K p_Rule_contains.fd ["self", "value"] []
  om_p_Rule_contains : OwnM W "__contains__" p_Rule_contains.f
  p_Store_contains : Dm W.K "__contains__" "Store.__contains__" t_p_Store_contains
  b_p_Store_contains : Binds W.K p_Store_contains.fd ["self", "value"] []
  ms_p_Store_contains : Meth W.K (W.cl 2) "__contains__" p_Store_contains.f
  ow_p_Store_contains : OwnK W 2 "__contains__" p_Store_contains.f
  q_lifev : Df W.K mg "_law_life" t_q_lifev ["_law_lives", "_law_point"]
  p_Rule_len : Dm W.K "__len__" "Rule.__len__" t_p_Rule_len
  b_p_Rule_len : Binds W.K p_Rule_len.fd ["self"] []
  om_p_Rule_len : OwnM W "__len__" p_Rule_len.f
  p_oldest_kept : Df W.K mg "oldest_kept" t_p_oldest_kept ["rule", "tick", "index"]
  p_multiples : Df W.K mg "multiples" t_p_multiples ["low", "high", "size"]
  p_size_of : Df W.K mg "size_of" t_p_size_of ["rank"]
  p_ranked_up_to : Df W.K mg "ranked_up_to" t_p_ranked_up_to ["high", "rank"]
  p_ranked : Df W.K mg "ranked" t_p_ranked ["low", "high", "rank"]
  p_kept_between : Df W.K mg "kept_between" t_p_kept_between ["rule", "tick", "low", "high"]
  p_kept_count : Df W.K mg "kept_count" t_p_kept_count ["rule", "tick"]
  p_Store_size : Dm W.K "size" "Store.size" t_p_Store_size
  b_p_Store_size : Binds W.K p_Store_size.fd ["self"] []
  ms_p_Store_size : Meth W.K (W.cl 2) "size" p_Store_size.f
  p_first_of : Df W.K mg "first_of" t_p_first_of ["rule", "tick", "index"]
  p_gap_of : Df W.K mg "gap_of" t_p_gap_of ["rule", "index"]
  p_kept : Df W.K mg "kept" t_p_kept ["rule", "tick"]
  p_Store_points : Dm W.K "points" "Store.points" t_p_Store_points
  b_p_Store_points : Binds W.K p_Store_points.fd ["self"] []
  ms_p_Store_points : Meth W.K (W.cl 2) "points" p_Store_points.f
  q_is_same : Df W.K mg "_law_is_same" t_q_is_same ["_law_store", "_law_model"]
  q_lives_on : Df W.K mg "_law_lives_on" t_q_lives_on ["_law_lives", "_law_point", "_law_now"]
  q_model_of : Df W.K mg "_law_model_of" t_q_model_of ["_law_lives", "_law_now"]
  q_right : Df W.K mg "_law_right" t_q_right ["_law_pot"]
  q_law : Df W.K mg "law" t_q_law ["_law_script"]
  p_Rule_lives : Dm W.K "lives" "Rule.lives" t_p_Rule_lives
  q0_p_Rule_lives : ∃ p, PropOf W.K (W.cl 0) "lives" p p_Rule_lives.f
  q1_p_Rule_lives : ∃ p, PropOf W.K (W.cl 1) "lives" p p_Rule_lives.f
  b_p_Rule_lives : Binds W.K p_Rule_lives.fd ["self"] []
  cd0 : Addr
  hcd0 : q_right.fd.code = .ref cd0
  tq0 : (envOfC "_law_right" (defScope t_q_right) 0 0 .none).qual ++ "<lambda>" = W.tq 0
  g0 : mg "Rule" = some (.ref (W.cl 0))
  c0 : ClsRec W.K (W.cl 0)
  g1 : mg "LongRule" = some (.ref (W.cl 1))
  c1 : ClsRec W.K (W.cl 1)
  g2 : mg "Store" = some (.ref (W.cl 2))
  c2 : ClsRec W.K (W.cl 2)
  fld : FldOk W 2 "held_lives"
  so : ObOk W 2 "held_state"
  ownc : OwnC W
  is0 : OwnI2 W 0
  k_MOST_COUNT : ∃ t, mg "MOST_COUNT" = some (.int 61 t)
  k_MOST_LIFE : ∃ t, mg "MOST_LIFE" = some (.int 1000000000000000000 t)
  k_MOST_POINTS : ∃ t, mg "MOST_POINTS" = some (.int 2000 t)
  k_MOST_TICKS : ∃ t, mg "MOST_TICKS" = some (.int 1000000000000000000 t)
  k_PAIR : ∃ t, mg "PAIR" = some (.int 2 t)
  n_ValueError : mg "ValueError" = none
  n_abs : mg "abs" = none
  n_all : mg "all" = none
  n_bool : mg "bool" = none
  n_int : mg "int" = none
  n_isinstance : mg "isinstance" = none
  n_len : mg "len" = none
  n_max : mg "max" = none
  n_min : mg "min" = none
  n_range : mg "range" = none
  n_repr : mg "repr" = none
  n_tuple : mg "tuple" = none
  n_zip : mg "zip" = none
theorem sc_q_pot_of : FnScope ["_law_script", "_law_k", "_law_cell", "_law_own"] ["_law_script", "_law_k"] (defScope t_q_pot_of) := ⟨rfl, rfl, rfl, by decide +kernel, rfl, by decide +kernel, by decide +kernel⟩
theorem sc_q_takevv : FnScope ["_law_pot", "_law_upto", "_law_prime", "_law_mixed", "_law_digit"] ["_law_pot", "_law_upto"] (defScope t_q_takevv) := ⟨rfl, rfl, rfl, by decide +kernel, rfl, by decide +kernel, by decide +kernel⟩
theorem sc_q_ofv : FnScope ["_law_pot", "_law_some"] ["_law_pot", "_law_some"] (defScope t_q_ofv) := ⟨rfl, rfl, rfl, by decide +kernel, rfl, by decide +kernel, by decide +kernel⟩
theorem sc_q_drawn_lives : FnScope ["_law_pot", "_law_limit", "_law_turn", "_law_found", "_law_life_here"] ["_law_pot", "_law_limit"] (defScope t_q_drawn_lives) := ⟨rfl, rfl, rfl, by decide +kernel, rfl, by decide +kernel, by decide +kernel⟩
theorem sc_p_is_integer : FnScope ["value", "high"] ["value", "high"] (defScope t_p_is_integer) := ⟨rfl, rfl, rfl, by decide +kernel, rfl, by decide +kernel, by decide +kernel⟩
theorem sc_p_Rule_are_lives : FnScope ["value", "whole", "life", "later"] ["value"] (defScope t_p_Rule_are_lives) := ⟨rfl, rfl, rfl, by decide +kernel, rfl, by decide +kernel, by decide +kernel⟩
theorem sc_p_shortest : FnScope ["lives", "many"] ["lives"] (defScope t_p_shortest) := ⟨rfl, rfl, rfl, by decide +kernel, rfl, by decide +kernel, by decide +kernel⟩
theorem sc_p_Rule_init : FnScope ["self", "lives"] ((["self"] : List Str) ++ (["lives"] : List Str)) (defScope t_p_Rule_init) := ⟨rfl, rfl, rfl, by decide +kernel, rfl, by decide +kernel, by decide +kernel⟩
theorem sc_p_Rule_of : FnScope ["cls", "lives"] ["cls", "lives"] (defScope t_p_Rule_of) := ⟨rfl, rfl, rfl, by decide +kernel, rfl, by decide +kernel, by decide +kernel⟩
theorem sc_q_oddv : FnScope ["_law_pot", "_law_some", "_law_value", "_law_turn"] ["_law_pot"] (defScope t_q_oddv) := ⟨rfl, rfl, rfl, by decide +kernel, rfl, by decide +kernel, by decide +kernel⟩
theorem sc_q_is_integer : FnScope ["_law_value", "_law_limit"] ["_law_value", "_law_limit"] (defScope t_q_is_integer) := ⟨rfl, rfl, rfl, by decide +kernel, rfl, by decide +kernel, by decide +kernel⟩
theorem sc_q_refusal : FnScope ["_law_ask", "error", "_law_caught", "_law_found"] ["_law_ask"] (defScope t_q_refusal) := ⟨rfl, rfl, rfl, by decide +kernel, rfl, by decide +kernel, by decide +kernel⟩
theorem sc_p_is_number : FnScope ["value", "most"] ["value", "most"] (defScope t_p_is_number) := ⟨rfl, rfl, rfl, by decide +kernel, rfl, by decide +kernel, by decide +kernel⟩
theorem sc_p_Store_initv : FnScope ["self", "rule", "tick"] ["self", "rule", "tick"] (defScope t_p_Store_initv) := ⟨rfl, rfl, rfl, by decide +kernel, rfl, by decide +kernel, by decide +kernel⟩
theorem sc_p_Store_tick : FnScope ["self"] ["self"] (defScope t_p_Store_tick) := ⟨rfl, rfl, rfl, by decide +kernel, rfl, by decide +kernel, by decide +kernel⟩
theorem sc_p_Rule_eq : FnScope ["self", "other"] ["self", "other"] (defScope t_p_Rule_eq) := ⟨rfl, rfl, rfl, by decide +kernel, rfl, by decide +kernel, by decide +kernel⟩
theorem sc_p_Store_rule : FnScope ["self"] ["self"] (defScope t_p_Store_rule) := ⟨rfl, rfl, rfl, by decide +kernel, rfl, by decide +kernel, by decide +kernel⟩
theorem sc_p_is_at_least : FnScope ["life", "other"] ["life", "other"] (defScope t_p_is_at_least) := ⟨rfl, rfl, rfl, by decide +kernel, rfl, by decide +kernel, by decide +kernel⟩
theorem sc_p_life_of : FnScope ["lives", "index"] ["lives", "index"] (defScope t_p_life_of) := ⟨rfl, rfl, rfl, by decide +kernel, rfl, by decide +kernel, by decide +kernel⟩
theorem sc_p_rank : FnScope ["point"] ["point"] (defScope t_p_rank) := ⟨rfl, rfl, rfl, by decide +kernel, rfl, by decide +kernel, by decide +kernel⟩
theorem sc_p_Rule_contains : FnScope ["self", "value", "point", "tick", "part"] ["self", "value"] (defScope t_p_Rule_contains) := ⟨rfl, rfl, rfl, by decide +kernel, rfl, by decide +kernel, by decide +kernel⟩
theorem sc_p_Store_contains : FnScope ["self", "value", "now", "force", "keeping", "lost"] ["self", "value"] (defScope t_p_Store_contains) := ⟨rfl, rfl, rfl, by decide +kernel, rfl, by decide +kernel, by decide +kernel⟩
theorem sc_q_lifev : FnScope ["_law_lives", "_law_point", "_law_zeros", "_law_left"] ["_law_lives", "_law_point"] (defScope t_q_lifev) := ⟨rfl, rfl, rfl, by decide +kernel, rfl, by decide +kernel, by decide +kernel⟩
theorem sc_p_Rule_len : FnScope ["self"] ["self"] (defScope t_p_Rule_len) := ⟨rfl, rfl, rfl, by decide +kernel, rfl, by decide +kernel, by decide +kernel⟩
theorem sc_p_oldest_kept : FnScope ["rule", "tick", "index", "life"] ["rule", "tick", "index"] (defScope t_p_oldest_kept) := ⟨rfl, rfl, rfl, by decide +kernel, rfl, by decide +kernel, by decide +kernel⟩
theorem sc_p_multiples : FnScope ["low", "high", "size"] ["low", "high", "size"] (defScope t_p_multiples) := ⟨rfl, rfl, rfl, by decide +kernel, rfl, by decide +kernel, by decide +kernel⟩
theorem sc_p_size_of : FnScope ["rank"] ["rank"] (defScope t_p_size_of) := ⟨rfl, rfl, rfl, by decide +kernel, rfl, by decide +kernel, by decide +kernel⟩
theorem sc_p_ranked_up_to : FnScope ["high", "rank", "size"] ["high", "rank"] (defScope t_p_ranked_up_to) := ⟨rfl, rfl, rfl, by decide +kernel, rfl, by decide +kernel, by decide +kernel⟩
theorem sc_p_ranked : FnScope ["low", "high", "rank"] ["low", "high", "rank"] (defScope t_p_ranked) := ⟨rfl, rfl, rfl, by decide +kernel, rfl, by decide +kernel, by decide +kernel⟩
theorem sc_p_kept_between : FnScope ["rule", "tick", "low", "high", "count", "index", "least", "most"] ["rule", "tick", "low", "high"] (defScope t_p_kept_between) := ⟨rfl, rfl, rfl, by decide +kernel, rfl, by decide +kernel, by decide +kernel⟩
theorem sc_p_kept_count : FnScope ["rule", "tick"] ["rule", "tick"] (defScope t_p_kept_count) := ⟨rfl, rfl, rfl, by decide +kernel, rfl, by decide +kernel, by decide +kernel⟩
theorem sc_p_Store_size : FnScope ["self", "now", "force", "keeping", "lost"] ["self"] (defScope t_p_Store_size) := ⟨rfl, rfl, rfl, by decide +kernel, rfl, by decide +kernel, by decide +kernel⟩
theorem sc_p_first_of : FnScope ["rule", "tick", "index", "low", "size"] ["rule", "tick", "index"] (defScope t_p_first_of) := ⟨rfl, rfl, rfl, by decide +kernel, rfl, by decide +kernel, by decide +kernel⟩
theorem sc_p_gap_of : FnScope ["rule", "index"] ["rule", "index"] (defScope t_p_gap_of) := ⟨rfl, rfl, rfl, by decide +kernel, rfl, by decide +kernel, by decide +kernel⟩
theorem sc_p_kept : GScope ["rule", "tick", "ahead", "index"] ["rule", "tick"] (defScope t_p_kept) := ⟨rfl, rfl, rfl, by decide +kernel, rfl, by decide +kernel, by decide +kernel⟩
theorem sc_p_Store_points : FnScope ["self", "now", "force", "keeping", "lost", "point"] ["self"] (defScope t_p_Store_points) := ⟨rfl, rfl, rfl, by decide +kernel, rfl, by decide +kernel, by decide +kernel⟩
theorem sc_q_is_same : FnScope ["_law_store", "_law_model"] ["_law_store", "_law_model"] (defScope t_q_is_same) := ⟨rfl, rfl, rfl, by decide +kernel, rfl, by decide +kernel, by decide +kernel⟩
theorem sc_q_lives_on : FnScope ["_law_lives", "_law_point", "_law_now", "_law_life_here"] ["_law_lives", "_law_point", "_law_now"] (defScope t_q_lives_on) := ⟨rfl, rfl, rfl, by decide +kernel, rfl, by decide +kernel, by decide +kernel⟩
theorem sc_q_model_of : FnScope ["_law_lives", "_law_now", "_law_point"] ["_law_lives", "_law_now"] (defScope t_q_model_of) := ⟨rfl, rfl, rfl, by decide +kernel, rfl, by decide +kernel, by decide +kernel⟩
theorem sc_q_right : FnScope ["_law_pot", "_law_lives", "_law_rule", "_law_value", "_law_due", "_law_store"] ["_law_pot"] (defScope t_q_right) := ⟨rfl, rfl, rfl, by decide +kernel, rfl, by decide +kernel, by decide +kernel⟩
theorem sc_q_law : FnScope ["_law_script", "_law_k", "_law_pot", "_law_turn"] ["_law_script"] (defScope t_q_law) := ⟨rfl, rfl, rfl, by decide +kernel, rfl, by decide +kernel, by decide +kernel⟩
theorem sc_p_Rule_lives : FnScope ["self"] ["self"] (defScope t_p_Rule_lives) := ⟨rfl, rfl, rfl, by decide +kernel, rfl, by decide +kernel, by decide +kernel⟩
structure Tbs {P : Program} {W : Wd} {mg : Str → Option Value} (T : Txt P W mg) (base : Heap) : Prop where
  b0 : LamX.TabB base mg T.cd0 (W.tb 0)
theorem sc_x0 : NdefX.NScope [("self" : Str), "value", "__class__"] [("self" : Str), "value"] [("__class__" : Str)] (defScope t_x0) := NdefX.nscope_by (by decide +kernel)
section
variable {P : Program} {w : World} {W : Wd} {mg : Str → Option Value} {base : Heap} (T : Txt P W mg)
include T
theorem ok_x0 : FnP P w W.K mg base CX0 1 T.x0.f (spXI (W.ec 0) "value") :=
  in_exc T.x0 T.xs0 sc_x0 rfl rfl rfl rfl fun A out s H E => ⟨rfl, rfl, ⟨_, rfl⟩⟩
theorem prp_ok : PrpOk P w W mg base 2 "lives" "held_lives" := ⟨T.fld.cls, T.fld.fd, fun c hc => by
  match c, hc with
  | 0, h => exact let ⟨q, hq⟩ := T.q0_p_Rule_lives; ⟨q, T.p_Rule_lives.f, T.p_Rule_lives.fd, hq, prp_of T.p_Rule_lives.fn sc_p_Rule_lives rfl rfl (T.fld.cls 0 h) (T.fld.no 0 h), T.b_p_Rule_lives⟩
  | 1, h => exact let ⟨q, hq⟩ := T.q1_p_Rule_lives; ⟨q, T.p_Rule_lives.f, T.p_Rule_lives.fd, hq, prp_of T.p_Rule_lives.fn sc_p_Rule_lives rfl rfl (T.fld.cls 1 h) (T.fld.no 1 h), T.b_p_Rule_lives⟩
  ⟩
theorem ok_q_pot_of : FnG P w W.K mg base CX0 1 T.q_pot_of.f T.q_pot_of.fd ["_law_script", "_law_k"] (spEv W 2 q_pot_of) :=
  fn_ev T.q_pot_of.fn sc_q_pot_of rfl rfl fun cdv A out s H E hg hr =>
    (et_cons (es_set sc_q_pot_of.nd (ev_if (ev_cmpT c_lt (ev_see 1) (see (ev_blt (b_len rfl) (by rfl) T.n_len bt_len (es_cons (ev_see 0) es_nil)))) (ev_ix rfl (ev_see 0) (ev_see 1)) (ev_add rfl (see (ev_mul (see ev_int) (ev_see 1))) (see ev_int))))
    (et_cons (es_set sc_q_pot_of.nd (ev_mul (see (ev_mod (see (ev_blt (b_abs) (by rfl) T.n_abs bt_abs (es_cons (ev_see 2) es_nil))) (see (ev_con (ev_powW (see (ev_con (ev_pow (see ev_int) (see ev_int)) (fun _ _ => by with_unfolding_all rfl))) (see ev_int)) (fun _ _ => by with_unfolding_all rfl))))) (see (ev_ty t_int (by rfl) T.n_int bt_int (es_cons (see (ev_cmp c_ge (see (ev_blt (b_abs) (by rfl) T.n_abs bt_abs (es_cons (ev_see 2) es_nil))) (see (ev_con (ev_pow (see ev_int) (see ev_int)) (fun _ _ => by with_unfolding_all rfl))))) es_nil)))))
    (et_one (es_retCell (ev_tupF (ea_cons (ev_var 3) (ea_cons (ev_mod (see (ev_add rfl (see (ev_add rfl (see (ev_mul (see (ev_mod (ev_see 2) (see ev_int))) (see ev_int))) (see (ev_mul (see (ev_mul (see ev_int) (ev_see 1))) (ev_see 1))))) (see ev_int))) (see ev_int)) (ea_cons ev_int ea_nil))))))))
theorem ok_q_takevv : FnG P w W.K mg base CX0 1 T.q_takevv.f T.q_takevv.fd ["_law_pot", "_law_upto"] (spEv W 2 q_takevv) :=
  fn_ev T.q_takevv.fn sc_q_takevv rfl rfl fun cdv A out s H E hg hr =>
    (et_cons (es_if (ev_cmpT c_gt (see (ev_ix rfl (ev_see 0) (see ev_int))) (see ev_int))
    (et_cons (es_set sc_q_takevv.nd (ev_mod (see (ev_ix rfl (ev_see 0) (see ev_int))) (ev_see 1)))
    (et_cons (es_setI 0 ev_int (ev_fdiv (see (ev_ix rfl (ev_see 0) (see ev_int))) (ev_see 1)))
    (et_one (es_ret (ev_var 4)))))
    et_nil)
    (et_cons (es_setI 0 ev_int (ev_add rfl (see (ev_ix rfl (ev_see 0) (see ev_int))) (see ev_int)))
    (et_cons (es_set sc_q_takevv.nd (ev_ix rfl (see (ev_val (ev_tupF (ea_cons ev_int (ea_cons ev_int (ea_cons ev_int (ea_cons ev_int (ea_cons ev_int ea_nil)))))))) (see (ev_mod (see (ev_ix rfl (ev_see 0) (see ev_int))) (see ev_int)))))
    (et_cons (es_set sc_q_takevv.nd (ev_mod (see (ev_pow (see (ev_add rfl (see (ev_add rfl (see (ev_ix rfl (ev_see 0) (see ev_int))) (see (ev_mul (see (ev_mul (see ev_int) (see (ev_ix rfl (ev_see 0) (see ev_int))))) (see (ev_ix rfl (ev_see 0) (see ev_int))))))) (see ev_int))) (see ev_int))) (ev_see 2)))
    (et_one (es_ret (ev_mod (see (ev_fdiv (see (ev_mod (see (ev_mul (ev_see 3) (see (ev_add rfl (see (ev_mod (ev_see 3) (see ev_int))) (see (ev_mul (see ev_int) (see (ev_ix rfl (ev_see 0) (see ev_int))))))))) (see ev_int))) (see ev_int))) (ev_see 1))))))))
theorem ok_q_ofv : FnG P w W.K mg base CX0 2 T.q_ofv.f T.q_ofv.fd ["_law_pot", "_law_some"] (spEv W 2 q_ofv) :=
  fn_ev T.q_ofv.fn sc_q_ofv rfl rfl fun cdv A out s H E hg hr =>
    (et_one (es_ret (ev_ix rfl (ev_see 1) (see (ev_call (ok_q_takevv T) hg (hr.mono (by decide)) (by rfl) T.q_takevv.gl T.q_takevv.fn.kp T.q_takevv.bd pass00 (ea_cons (ev_var 0) (ea_cons (ev_blt (b_len rfl) (by rfl) T.n_len bt_len (es_cons (ev_see 1) es_nil)) ea_nil)))))))
theorem ok_q_drawn_lives : FnG P w W.K mg base CX0 3 T.q_drawn_lives.f T.q_drawn_lives.fd ["_law_pot", "_law_limit"] (spEv W 2 q_drawn_lives) :=
  fn_ev T.q_drawn_lives.fn sc_q_drawn_lives rfl rfl fun cdv A out s H E hg hr =>
    (et_cons (es_parF rfl sc_q_drawn_lives.nd (ev_tupF ea_nil) ev_int)
    (et_cons (es_for PassesOwn.never rfl (ei_range1 (by rfl) T.n_range (es_cons (see (ev_add rfl (see ev_int) (see (ev_call (ok_q_takevv T) hg (hr.mono (by decide)) (by rfl) T.q_takevv.gl T.q_takevv.fn.kp T.q_takevv.bd pass00 (ea_cons (ev_var 0) (ea_cons (ev_var 1) ea_nil)))))) es_nil)) (eg_name 2 sc_q_drawn_lives.nd)
    (et_cons (es_set sc_q_drawn_lives.nd (ev_add rfl (ev_see 4) (see (ev_call (ok_q_ofv T) hg (hr.mono (by decide)) (by rfl) T.q_ofv.gl T.q_ofv.fn.kp T.q_ofv.bd pass00 (ea_cons (ev_var 0) (ea_cons (ev_val (ev_tupF (ea_cons ev_int (ea_cons ev_int (ea_cons ev_int (ea_cons ev_int (ea_cons ev_int (ea_cons ev_int (ea_cons ev_int (ea_cons ev_int ea_nil)))))))))) ea_nil))))))
    (et_one (es_append (pe_bm PySem.F.plainAttrs_list PySem.F.slot_list_append PySem.F.type_list_append mt_append (pv 3) (pa_cons (ev_var 4) pa_nil))))))
    (et_cons (es_if (ev_cmpT (c_eqP rfl hr.units) (see (ev_call (ok_q_takevv T) hg (hr.mono (by decide)) (by rfl) T.q_takevv.gl T.q_takevv.fn.kp T.q_takevv.bd pass00 (ea_cons (ev_var 0) (ea_cons ev_int ea_nil)))) (see ev_int))
    (et_one (es_setI 3 (ev_neg (see ev_int)) ev_non))
    et_nil)
    (et_one (es_ret (ev_ty (b_tuple rfl) (by rfl) T.n_tuple bt_tuple (es_cons (ev_see 3) es_nil)))))))
theorem ok_p_is_integer : FnG P w W.K mg base CX0 1 T.p_is_integer.f T.p_is_integer.fd ["value", "high"] (spEv W 2 p_is_integer) :=
  fn_evD T.p_is_integer.fn sc_p_is_integer rfl rfl fun cdv A out s H E hg hr =>
    (et_one (es_ret (ev_and (ev_isi (x := "isinstance") (y := "int") rfl (by rfl) rfl T.n_isinstance (by rfl) T.n_int bt_isinstance bt_int (ev_var 0)) (ev_and (ev_not (ev_isi (x := "isinstance") (y := "bool") rfl (by rfl) rfl T.n_isinstance (by rfl) T.n_bool bt_isinstance bt_bool (ev_var 0))) (ev_and (ev_cmp c_ge (ev_see 0) (see ev_int)) (ev_one (ev_or (ev_cmp c_isN (ev_see 1) (see ev_non)) (ev_one (ev_cmp c_le (ev_see 0) (ev_see 1))))))))))
theorem ok_p_Rule_are_lives : FnG P w W.K mg base CX0 2 T.p_Rule_are_lives.f T.p_Rule_are_lives.fd ["value"] (spEv W 1 p_Rule_are_lives) :=
  fn_ev T.p_Rule_are_lives.fn sc_p_Rule_are_lives rfl rfl fun cdv A out s H E hg hr =>
    (et_cons (es_if (PW.pt (evw_or (evt_not (ev_test (ev_isi (x := "isinstance") (y := "tuple") rfl (by rfl) rfl T.n_isinstance (by rfl) T.n_tuple bt_isinstance bt_tuple (ev_var 0)))) (evw_or1 (evt_not (evt_chain c_le c_le (see ev_int) (see (ev_blt (b_len rfl) (by rfl) T.n_len bt_len (es_cons (ev_see 0) es_nil))) (see (ev_gint (by rfl) T.k_MOST_COUNT)))))))
    (et_one (es_ret ev_bl))
    et_nil)
    (et_cons (es_set sc_p_Rule_are_lives.nd (ev_if (ev_cmpT c_isN (see (ev_ix rfl (ev_see 0) (see (ev_neg (see ev_int))))) (see ev_non)) (ev_slice rfl (ev_see 0) eo_none (eo_some (see (ev_neg (see ev_int))))) (ev_var 0)))
    (et_cons (es_if (evt_not (ev_test (ev_blt (b_all rfl rfl) (by rfl) T.n_all bt_all (es_cons (see (ev_val (ev_lc (own := [("life", 2)]) rfl sc_p_Rule_are_lives.nd (ei_seq rfl (ev_var 1)) (blkOk_by (N := ["value", "whole", "life", "later"]) (sc := defScope t_p_Rule_are_lives) (by decide +kernel)) (fun _ _ _ _ _ => (eg_name 2 sc_p_Rule_are_lives.nd)) (fun _ _ _ _ _ => epts_nil) (fun _ _ _ _ _ => (ev_callP (FnP.ofD (ok_p_is_integer T) T.p_is_integer.bd) hg (hr.mono (by decide)) (by rfl) T.p_is_integer.gl T.p_is_integer.fn.kp pass00 (ea_cons (ev_var 2) (ea_cons (ev_gint (by rfl) T.k_MOST_LIFE) ea_nil))))))) es_nil))))
    (et_one (es_ret ev_bl))
    et_nil)
    (et_one (es_ret (ev_blt (b_all rfl rfl) (by rfl) T.n_all bt_all (es_cons (see (ev_val (ev_lc (own := [("life", 2), ("later", 3)]) rfl sc_p_Rule_are_lives.nd (ei_zip rfl (by rfl) T.n_zip (ea_cons (ev_var 1) (ea_cons (ev_slice rfl (ev_see 1) (eo_some (see ev_int)) eo_none) ea_nil))) (blkOk_by (N := ["value", "whole", "life", "later"]) (sc := defScope t_p_Rule_are_lives) (by decide +kernel)) (fun _ _ _ _ _ => (eg_tup rfl rfl (egs_cons (eg_name 2 sc_p_Rule_are_lives.nd) (egs_cons (eg_name 3 sc_p_Rule_are_lives.nd) egs_nil)))) (fun _ _ _ _ _ => epts_nil) (fun _ _ _ _ _ => (ev_cmp c_le (ev_see 2) (ev_see 3)))))) es_nil)))))))
theorem ok_p_shortest : FnG P w W.K mg base CX0 1 T.p_shortest.f T.p_shortest.fd ["lives"] (spEv W 1 p_shortest) :=
  fn_ev T.p_shortest.fn sc_p_shortest rfl rfl fun cdv A out s H E hg hr =>
    (et_cons (es_set sc_p_shortest.nd (ev_blt (b_len rfl) (by rfl) T.n_len bt_len (es_cons (ev_see 0) es_nil)))
    (et_cons (es_while 100000 PassesOwn.never (PW.pt (evw_and (ev_cmpT c_gt (ev_see 1) (see ev_int)) (evw_and1 (ev_cmpT (c_eqP rfl hr.units) (see (ev_ix rfl (ev_see 0) (see (ev_sub (ev_see 1) (see ev_int))))) (see (ev_ix rfl (ev_see 0) (see (ev_sub (ev_see 1) (see ev_int)))))))))
    (et_one (es_isub sc_p_shortest.nd (see ev_int))))
    (et_one (es_ret (ev_ty (b_tuple rfl) (by rfl) T.n_tuple bt_tuple (es_cons (see (ev_slice rfl (ev_see 0) eo_none (eo_some (ev_see 1)))) es_nil))))))
theorem ok_p_Rule_init : FnP P w W.K mg base CX0 3 T.p_Rule_init.f (spIn W 0 (inStar p_Rule_init)) :=
  in_star T.p_Rule_init.fn sc_p_Rule_init rfl T.h_p_Rule_init rfl (T.fld.cls 0 (by decide)) (T.fld.no 0 (by decide)) (T.fld.fd 0 (by decide)) fun cdv A out s H E hg hr =>
    ⟨(evt_not (ev_test (ev_smeth (pl := _) (ev_cls (c := 0) (by rfl) T.g0) T.c0.cr T.r_p_Rule_are_lives ((ok_p_Rule_are_lives T).pos0 T.b_p_Rule_are_lives) hg (hr.mono (by decide)) pass00 (ea_cons (ev_var 1) ea_nil)))), (et_one es_bad), (ev_call (ok_p_shortest T) hg (hr.mono (by decide)) (by rfl) T.p_shortest.gl T.p_shortest.fn.kp T.p_shortest.bd pass00 (ea_cons (ev_var 1) ea_nil)), Or.inl rfl, rfl⟩
theorem ok_p_Rule_of : FnG P w W.K mg base CX0 5 T.p_Rule_of.f T.p_Rule_of.fd ["cls", "lives"] (spEv W 2 p_Rule_of) :=
  fn_ev T.p_Rule_of.fn sc_p_Rule_of rfl rfl fun cdv A out s H E hg hr =>
    (et_cons (es_if (evt_not (ev_test (ev_smeth (pl := _) (ev_var 0) T.c0.cr T.r_p_Rule_are_lives ((ok_p_Rule_are_lives T).pos0 T.b_p_Rule_are_lives) hg (hr.mono (by decide)) pass00 (ea_cons (ev_var 1) ea_nil))))
    (et_one es_bad)
    et_nil)
    (et_one (es_ret (ev_mkStar rfl T.m_p_Rule_init (ok_p_Rule_init T) hg (hr.mono (by decide)) pass00 (ev_var 0) (ev_var 1)))))
theorem ok_q_oddv : FnG P w W.K mg base CX0 3 T.q_oddv.f T.q_oddv.fd ["_law_pot"] (spEv W 1 q_oddv) :=
  fn_ev T.q_oddv.fn sc_q_oddv rfl rfl fun cdv A out s H E hg hr =>
    (et_cons (es_own sc_q_oddv.nd (ev_tupF (ea_cons ev_non (ea_cons ev_bl (ea_cons ev_bl (ea_cons ev_int (ea_cons ev_int (ea_cons (ev_neg (see ev_int)) (ea_cons ev_int (ea_cons (ev_con (ev_pow (see ev_int) (see ev_int)) (fun _ _ => by with_unfolding_all rfl)) (ea_cons (ev_add rfl (see (ev_con (ev_pow (see ev_int) (see ev_int)) (fun _ _ => by with_unfolding_all rfl))) (see ev_int)) (ea_cons ev_str (ea_cons ev_str (ea_cons (ev_tup ea_nil) (ea_cons (ev_val (ev_tupF ea_nil)) (ea_cons ev_da0 (ea_cons (ev_tup (ea_cons ev_int ea_nil)) (ea_cons (ev_val (ev_tupF (ea_cons ev_int ea_nil))) ea_nil))))))))))))))))))
    (et_cons (es_frz 1 (es_set sc_q_oddv.nd (ev_call (ok_q_ofv T) hg (hr.mono (by decide)) (by rfl) T.q_ofv.gl T.q_ofv.fn.kp T.q_ofv.bd pass00 (ea_cons (ev_var 0) (ea_cons (ev_var 1) ea_nil)))))
    (et_cons (es_for PassesOwn.never rfl (ei_range1 (by rfl) T.n_range (es_cons (see (ev_call (ok_q_ofv T) hg (hr.mono (by decide)) (by rfl) T.q_ofv.gl T.q_ofv.fn.kp T.q_ofv.bd pass00 (ea_cons (ev_var 0) (ea_cons (ev_val (ev_tupF (ea_cons ev_int (ea_cons ev_int (ea_cons ev_int (ea_cons ev_int (ea_cons ev_int ea_nil))))))) ea_nil)))) es_nil)) (eg_name 3 sc_q_oddv.nd)
    (et_one (es_set sc_q_oddv.nd (ev_ix rfl (see (ev_val (ev_tupF (ea_cons (ev_tup (ea_cons (ev_var 2) ea_nil)) (ea_cons (ev_val (ev_tupF (ea_cons (ev_var 2) ea_nil))) (ea_cons (ev_da1 (i := 2)) ea_nil)))))) (see (ev_call (ok_q_takevv T) hg (hr.mono (by decide)) (by rfl) T.q_takevv.gl T.q_takevv.fn.kp T.q_takevv.bd pass00 (ea_cons (ev_var 0) (ea_cons ev_int ea_nil))))))))
    (et_one (es_ret (ev_var 2))))))
theorem ok_q_is_integer : FnG P w W.K mg base CX0 1 T.q_is_integer.f T.q_is_integer.fd ["_law_value", "_law_limit"] (spEv W 2 q_is_integer) :=
  fn_ev T.q_is_integer.fn sc_q_is_integer rfl rfl fun cdv A out s H E hg hr =>
    (et_one (es_ret (ev_and (ev_isi (x := "isinstance") (y := "int") rfl (by rfl) rfl T.n_isinstance (by rfl) T.n_int bt_isinstance bt_int (ev_var 0)) (ev_and (ev_not (ev_isi (x := "isinstance") (y := "bool") rfl (by rfl) rfl T.n_isinstance (by rfl) T.n_bool bt_isinstance bt_bool (ev_var 0))) (ev_one (ev_chain c_le c_le (see ev_int) (ev_see 0) (ev_see 1)))))))
theorem ok_q_refusal : ToldB P w W mg base 20 ["_law_ask", "error", "_law_caught", "_law_found"] "_law_refusal" t_q_refusal T.q_refusal.f "_law_ask" q_refusal :=
  told_expr (NE := 1) (i := 1) (j := 2) (cv := .ref (W.ec 1)) (fun e g => ⟨_, rfl⟩) rfl T.hex fun cdv A out s H E hg hr =>
    ⟨(keep_parG (by decide) (by decide) rfl sc_q_refusal.nd ev_non (ev_tupF ea_nil)), (et_cons (es_if (ev_test (ev_isX (n := 0) (t := (fun _ => true)) rfl T.exk T.isx0 T.isxn0 (by rfl) rfl T.n_isinstance (by rfl) T.gx0 bt_isinstance (ev_var 2)))
    (et_one (es_append (pe_bm PySem.F.plainAttrs_list PySem.F.slot_list_append PySem.F.type_list_append mt_append (pv 3) (pa_cons (ev_tup (ea_cons ev_str (ea_cons (ev_valX rfl T.exk (ev_var 2)) ea_nil))) pa_nil))))
    et_nil)
    (et_cons (es_if (ev_test (ev_isX (n := 2) (t := (fun _ => false)) rfl T.exk T.isx2 T.isxn2 (by rfl) rfl T.n_isinstance (by rfl) T.gx2 bt_isinstance (ev_var 2)))
    (et_one (es_append (pe_bm PySem.F.plainAttrs_list PySem.F.slot_list_append PySem.F.type_list_append mt_append (pv 3) (pa_cons (ev_tup (ea_cons ev_str (ea_cons (ev_valX rfl T.exk (ev_var 2)) ea_nil))) pa_nil))))
    et_nil)
    (et_cons (es_if (ev_test (ev_isX (n := 3) (t := (fun _ => false)) rfl T.exk T.isx3 T.isxn3 (by rfl) rfl T.n_isinstance (by rfl) T.gx3 bt_isinstance (ev_var 2)))
    (et_one (es_append (pe_bm PySem.F.plainAttrs_list PySem.F.slot_list_append PySem.F.type_list_append mt_append (pv 3) (pa_cons (ev_tup (ea_cons ev_str (ea_cons (ev_valX rfl T.exk (ev_var 2)) ea_nil))) pa_nil))))
    et_nil)
    (et_cons (es_if (ev_test (ev_isX (n := 4) (t := (fun _ => false)) rfl T.exk T.isx4 T.isxn4 (by rfl) rfl T.n_isinstance (by rfl) T.gx4 bt_isinstance (ev_var 2)))
    (et_one (es_append (pe_bm PySem.F.plainAttrs_list PySem.F.slot_list_append PySem.F.type_list_append mt_append (pv 3) (pa_cons (ev_tup (ea_cons ev_str (ea_cons (ev_valX rfl T.exk (ev_var 2)) ea_nil))) pa_nil))))
    et_nil)
    (et_cons (es_if (ev_test (ev_isX (n := 5) (t := (fun _ => false)) rfl T.exk T.isx5 T.isxn5 (by rfl) rfl T.n_isinstance (by rfl) T.gx5 bt_isinstance (ev_var 2)))
    (et_one (es_append (pe_bm PySem.F.plainAttrs_list PySem.F.slot_list_append PySem.F.type_list_append mt_append (pv 3) (pa_cons (ev_tup (ea_cons ev_str (ea_cons (ev_valX rfl T.exk (ev_var 2)) ea_nil))) pa_nil))))
    et_nil)
    (et_cons (es_if (ev_test (ev_isX (n := 6) (t := (fun _ => false)) rfl T.exk T.isx6 T.isxn6 (by rfl) rfl T.n_isinstance (by rfl) T.gx6 bt_isinstance (ev_var 2)))
    (et_one (es_append (pe_bm PySem.F.plainAttrs_list PySem.F.slot_list_append PySem.F.type_list_append mt_append (pv 3) (pa_cons (ev_tup (ea_cons ev_str (ea_cons (ev_valX rfl T.exk (ev_var 2)) ea_nil))) pa_nil))))
    et_nil)
    (et_cons (es_if (ev_cmpT c_isN (ev_see 2) (see ev_non))
    (et_one (es_ret (ev_tup (ea_cons ev_non (ea_cons ev_non ea_nil)))))
    et_nil)
    (et_one (es_ret (ev_if (PW.pt (evw_and (ev_cmpT (c_eqP rfl hr.units) (see (ev_blt (b_len rfl) (by rfl) T.n_len bt_len (es_cons (ev_see 3) es_nil))) (see ev_int)) (evw_and1 (ev_test (ev_isXb (t := (fun _ => true)) rfl T.exk T.isV T.isVn (by rfl) rfl T.n_isinstance (by rfl) T.n_ValueError bt_isinstance (by rfl) (ev_var 2)))))) (ev_ix rfl (ev_see 3) (see ev_int)) (ev_tup (ea_cons ev_str (ea_cons ev_non ea_nil))))))))))))), sc_q_refusal.nd, rfl, rfl, rfl, rfl, ⟨by rfl, by decide, Or.inl T.gx1⟩, rfl, rfl⟩
theorem ok_p_is_number : FnG P w W.K mg base CX0 1 T.p_is_number.f T.p_is_number.fd ["value", "most"] (spEv W 2 p_is_number) :=
  fn_ev T.p_is_number.fn sc_p_is_number rfl rfl fun cdv A out s H E hg hr =>
    (et_one (es_ret (ev_and (ev_isi (x := "isinstance") (y := "int") rfl (by rfl) rfl T.n_isinstance (by rfl) T.n_int bt_isinstance bt_int (ev_var 0)) (ev_and (ev_not (ev_isi (x := "isinstance") (y := "bool") rfl (by rfl) rfl T.n_isinstance (by rfl) T.n_bool bt_isinstance bt_bool (ev_var 0))) (ev_and (ev_cmp c_ge (ev_see 0) (see ev_int)) (ev_one (ev_or (ev_cmp c_isN (ev_see 1) (see ev_non)) (ev_one (ev_cmp c_le (ev_see 0) (ev_see 1))))))))))
theorem ok_p_Store_initv : FnG P w W.K mg base (L2.CX P w) 3 T.p_Store_initv.f T.p_Store_initv.fd ["self", "rule", "tick"] (spIn W 2 (inP 3 p_Store_initv)) :=
  in_plainX T.p_Store_initv.fn sc_p_Store_initv rfl rfl rfl T.so fun cdv A out s H E hg hr tk =>
    ⟨(evt_not (ev_test (ev_call (ok_p_is_number T) hg (hr.mono (by decide)) (by rfl) T.p_is_number.gl T.p_is_number.fn.kp T.p_is_number.bd pass00 (ea_cons (ev_var 2) (ea_cons (ev_gint (by rfl) T.k_MOST_TICKS) ea_nil))))), (et_one (es_raise T.x0.oex T.x0.hi T.x0.tI (ok_x0 T) hg (hr.mono (by decide)) (by rfl) T.gx0 rfl tk (ev_var 2))), (ev_tup (ea_cons (ev_var 2) (ea_cons (ev_var 1) (ea_cons (ev_var 1) (ea_cons (ev_tup ea_nil) ea_nil))))), Or.inl rfl, rfl⟩
theorem oz_p_Store_tick : FnOk P w W.K mg base CX0 1 T.p_Store_tick.f T.p_Store_tick.fd ["self"] (spEv W 1 p_Store_tick) :=
  fnZ_ev T.p_Store_tick.fn sc_p_Store_tick rfl rfl fun cdv A out s H E hr =>
    (et_one (es_ret (ev_ix rfl (see (ev_cob rfl T.so (ev_var 0))) (see ev_int))))
theorem ok_p_Rule_eq : FnG P w W.K mg base CX0 1 T.p_Rule_eq.f T.p_Rule_eq.fd ["self", "other"] (spEv W 2 p_Rule_eq) :=
  fn_ev T.p_Rule_eq.fn sc_p_Rule_eq rfl rfl fun cdv A out s H E hg hr =>
    (et_one (es_ret (ev_and (ev_isiRu (x := "isinstance") (y := "Rule") (n := 0) rfl T.is0 (by rfl) rfl T.n_isinstance (by rfl) T.g0 bt_isinstance (ev_var 1)) (ev_one (ev_cmp (c_eqP rfl hr.units) (see (ev_fld rfl T.fld (ev_var 0))) (see (ev_fld rfl T.fld (ev_var 1))))))))
theorem oz_p_Store_rule : FnOk P w W.K mg base CX0 1 T.p_Store_rule.f T.p_Store_rule.fd ["self"] (spEv W 1 p_Store_rule) :=
  fnZ_ev T.p_Store_rule.fn sc_p_Store_rule rfl rfl fun cdv A out s H E hr =>
    (et_one (es_ret (ev_ix rfl (see (ev_cob rfl T.so (ev_var 0))) (see ev_int))))
theorem ok_p_is_at_least : FnG P w W.K mg base CX0 1 T.p_is_at_least.f T.p_is_at_least.fd ["life", "other"] (spEv W 2 p_is_at_least) :=
  fn_ev T.p_is_at_least.fn sc_p_is_at_least rfl rfl fun cdv A out s H E hg hr =>
    (et_one (es_ret (ev_or (ev_cmp c_isN (ev_see 0) (see ev_non)) (ev_one (ev_and (ev_cmp c_notN (ev_see 1) (see ev_non)) (ev_one (ev_cmp c_ge (ev_see 0) (ev_see 1))))))))
theorem ok_p_life_of : FnG P w W.K mg base CX0 1 T.p_life_of.f T.p_life_of.fd ["lives", "index"] (spEv W 2 p_life_of) :=
  fn_ev T.p_life_of.fn sc_p_life_of rfl rfl fun cdv A out s H E hg hr =>
    (et_one (es_ret (ev_if (PW.pt (evw_or (ev_cmpT c_isN (ev_see 1) (see ev_non)) (evw_or1 (ev_cmpT c_ge (ev_see 1) (see (ev_blt (b_len rfl) (by rfl) T.n_len bt_len (es_cons (ev_see 0) es_nil))))))) (ev_ix rfl (ev_see 0) (see (ev_neg (see ev_int)))) (ev_ix rfl (ev_see 0) (ev_see 1)))))
theorem ok_p_rank : FnG P w W.K mg base CX0 1 T.p_rank.f T.p_rank.fd ["point"] (spEv W 1 p_rank) :=
  fn_ev T.p_rank.fn sc_p_rank rfl rfl fun cdv A out s H E hg hr =>
    (et_one (es_ret (ev_if (ev_cmpT c_gt (ev_see 0) (see ev_int)) (ev_sub (see (ev_bits (see (ev_and_ (ev_see 0) (see (ev_neg (ev_see 0))))))) (see ev_int)) ev_non)))
theorem ok_p_Rule_contains : FnG P w W.K mg base CX0 2 T.p_Rule_contains.f T.p_Rule_contains.fd ["self", "value"] (spEv W 2 p_Rule_contains) :=
  fn_ev T.p_Rule_contains.fn sc_p_Rule_contains rfl rfl fun cdv A out s H E hg hr =>
    (et_cons (es_if (PW.pt (evw_or (evt_not (ev_test (ev_isi (x := "isinstance") (y := "tuple") rfl (by rfl) rfl T.n_isinstance (by rfl) T.n_tuple bt_isinstance bt_tuple (ev_var 1)))) (evw_or (ev_cmpT (c_neP rfl hr.units) (see (ev_blt (b_len rfl) (by rfl) T.n_len bt_len (es_cons (ev_see 1) es_nil))) (see (ev_gint (by rfl) T.k_PAIR))) (evw_or1 (evt_not (ev_test (ev_blt (b_all rfl rfl) (by rfl) T.n_all bt_all (es_cons (see (ev_val (ev_lc (own := [("part", 4)]) rfl sc_p_Rule_contains.nd (ei_seq rfl (ev_var 1)) (blkOk_by (N := ["self", "value", "point", "tick", "part"]) (sc := defScope t_p_Rule_contains) (by decide +kernel)) (fun _ _ _ _ _ => (eg_name 4 sc_p_Rule_contains.nd)) (fun _ _ _ _ _ => epts_nil) (fun _ _ _ _ _ => (ev_callP ((ok_p_is_integer T).dfl T.p_is_integer.bd1 rfl fun _ _ => ⟨_, _, rfl, rfl, rfl⟩) hg (hr.mono (by decide)) (by rfl) T.p_is_integer.gl T.p_is_integer.fn.kp pass00 (ea_cons (ev_var 4) ea_nil)))))) es_nil))))))))
    (et_one (es_ret ev_bl))
    et_nil)
    (et_cons (es_asg (ev_var 1) (eg_tup rfl rfl (egs_cons (eg_name 2 sc_p_Rule_contains.nd) (egs_cons (eg_name 3 sc_p_Rule_contains.nd) egs_nil))))
    (et_one (es_ret (ev_and (ev_cmp c_le (ev_see 2) (ev_see 3)) (ev_one (ev_call (ok_p_is_at_least T) hg (hr.mono (by decide)) (by rfl) T.p_is_at_least.gl T.p_is_at_least.fn.kp T.p_is_at_least.bd pass00 (ea_cons (ev_call (ok_p_life_of T) hg (hr.mono (by decide)) (by rfl) T.p_life_of.gl T.p_life_of.fn.kp T.p_life_of.bd pass00 (ea_cons (ev_fld rfl T.fld (ev_var 0)) (ea_cons (ev_call (ok_p_rank T) hg (hr.mono (by decide)) (by rfl) T.p_rank.gl T.p_rank.fn.kp T.p_rank.bd pass00 (ea_cons (ev_var 2) ea_nil)) ea_nil))) (ea_cons (ev_add rfl (see (ev_sub (ev_see 3) (ev_see 2))) (see ev_int)) ea_nil)))))))))
theorem ok_p_Store_contains : FnG P w W.K mg base CX0 3 T.p_Store_contains.f T.p_Store_contains.fd ["self", "value"] (spEv W 2 p_Store_contains) :=
  fn_ev T.p_Store_contains.fn sc_p_Store_contains rfl rfl fun cdv A out s H E hg hr =>
    (et_cons (es_asg (ev_cob rfl T.so (ev_var 0)) (eg_tup rfl rfl (egs_cons (eg_name 2 sc_p_Store_contains.nd) (egs_cons (eg_name 3 sc_p_Store_contains.nd) (egs_cons (eg_name 4 sc_p_Store_contains.nd) (egs_cons (eg_name 5 sc_p_Store_contains.nd) egs_nil))))))
    (et_one (es_ret (ev_and (ev_call (ok_p_is_number T) hg (hr.mono (by decide)) (by rfl) T.p_is_number.gl T.p_is_number.fn.kp T.p_is_number.bd pass00 (ea_cons (ev_var 1) (ea_cons ev_non ea_nil))) (ev_and (ev_cmpRu (c_ruIn (neg := false) rfl T.om_p_Rule_contains ((ok_p_Rule_contains T).pos0 T.b_p_Rule_contains) hg (hr.mono (by decide)) pass00) (ev_tup (ea_cons (ev_var 1) (ea_cons (ev_var 2) ea_nil))) (ev_var 4)) (ev_one (ev_nin rfl (ev_see 1) (ev_see 5))))))))
theorem ok_q_lifev : FnG P w W.K mg base CX0 1 T.q_lifev.f T.q_lifev.fd ["_law_lives", "_law_point"] (spEv W 2 q_lifev) :=
  fn_ev T.q_lifev.fn sc_q_lifev rfl rfl fun cdv A out s H E hg hr =>
    (et_cons (es_if (ev_cmpT (c_eqP rfl hr.units) (ev_see 1) (see ev_int))
    (et_one (es_ret (ev_ix rfl (ev_see 0) (see (ev_neg (see ev_int))))))
    et_nil)
    (et_cons (es_par rfl sc_q_lifev.nd ev_int (ev_var 1))
    (et_cons (es_while 100000 PassesOwn.never (ev_cmpT (c_eqP rfl hr.units) (see (ev_mod (ev_see 3) (see ev_int))) (see ev_int))
    (et_one (es_par rfl sc_q_lifev.nd (ev_add rfl (ev_see 2) (see ev_int)) (ev_fdiv (ev_see 3) (see ev_int)))))
    (et_one (es_ret (ev_ix rfl (ev_see 0) (see (ev_blt (b_min rfl rfl) (by rfl) T.n_min bt_min (es_cons (ev_see 2) (es_cons (see (ev_sub (see (ev_blt (b_len rfl) (by rfl) T.n_len bt_len (es_cons (ev_see 0) es_nil))) (see ev_int))) es_nil))))))))))
theorem oz_p_Rule_len : FnOk P w W.K mg base CX0 1 T.p_Rule_len.f T.p_Rule_len.fd ["self"] (spEv W 1 p_Rule_len) :=
  fnZ_ev T.p_Rule_len.fn sc_p_Rule_len rfl rfl fun cdv A out s H E hr =>
    (et_one (es_ret (ev_blt (b_len rfl) (by rfl) T.n_len bt_len (es_cons (see (ev_fld rfl T.fld (ev_var 0))) es_nil))))
theorem ok_p_Rule_len : FnG P w W.K mg base CX0 1 T.p_Rule_len.f T.p_Rule_len.fd ["self"] (spEv W 1 p_Rule_len) := FnG.of (oz_p_Rule_len T)
theorem oz_p_oldest_kept : FnOk P w W.K mg base CX0 3 T.p_oldest_kept.f T.p_oldest_kept.fd ["rule", "tick", "index"] (spEv W 3 p_oldest_kept) :=
  fnZ_ev T.p_oldest_kept.fn sc_p_oldest_kept rfl rfl fun cdv A out s H E hr =>
    (et_cons (es_set sc_p_oldest_kept.nd (ev_ix rfl (see (ev_prp rfl (prp_ok T) (hr.mono (by decide)) (ev_var 0))) (ev_see 2)))
    (et_one (es_ret (ev_if (ev_cmpT c_isN (ev_see 3) (see ev_non)) ev_int (ev_blt (b_max rfl rfl) (by rfl) T.n_max bt_max (es_cons (see ev_int) (es_cons (see (ev_add rfl (see (ev_sub (ev_see 1) (ev_see 3))) (see ev_int))) es_nil)))))))
theorem ok_p_oldest_kept : FnG P w W.K mg base CX0 3 T.p_oldest_kept.f T.p_oldest_kept.fd ["rule", "tick", "index"] (spEv W 3 p_oldest_kept) := FnG.of (oz_p_oldest_kept T)
theorem ok_p_multiples : FnG P w W.K mg base CX0 1 T.p_multiples.f T.p_multiples.fd ["low", "high", "size"] (spEv W 3 p_multiples) :=
  fn_ev T.p_multiples.fn sc_p_multiples rfl rfl fun cdv A out s H E hg hr =>
    (et_one (es_ret (ev_blt (b_max rfl rfl) (by rfl) T.n_max bt_max (es_cons (see ev_int) (es_cons (see (ev_sub (see (ev_fdiv (ev_see 1) (ev_see 2))) (see (ev_fdiv (see (ev_sub (ev_see 0) (see ev_int))) (ev_see 2))))) es_nil)))))
theorem oz_p_size_of : FnOk P w W.K mg base CX0 1 T.p_size_of.f T.p_size_of.fd ["rank"] (spEv W 1 p_size_of) :=
  fnZ_ev T.p_size_of.fn sc_p_size_of rfl rfl fun cdv A out s H E hr =>
    (et_one (es_ret (ev_shl (see ev_int) (ev_see 0))))
theorem ok_p_size_of : FnG P w W.K mg base CX0 1 T.p_size_of.f T.p_size_of.fd ["rank"] (spEv W 1 p_size_of) := FnG.of (oz_p_size_of T)
theorem ok_p_ranked_up_to : FnG P w W.K mg base CX0 2 T.p_ranked_up_to.f T.p_ranked_up_to.fd ["high", "rank"] (spEv W 2 p_ranked_up_to) :=
  fn_ev T.p_ranked_up_to.fn sc_p_ranked_up_to rfl rfl fun cdv A out s H E hg hr =>
    (et_cons (es_set sc_p_ranked_up_to.nd (ev_call (ok_p_size_of T) hg (hr.mono (by decide)) (by rfl) T.p_size_of.gl T.p_size_of.fn.kp T.p_size_of.bd pass00 (ea_cons (ev_var 1) ea_nil)))
    (et_one (es_ret (ev_if (ev_cmpT c_gt (ev_see 0) (see ev_int)) (ev_fdiv (see (ev_add rfl (ev_see 0) (ev_see 2))) (see (ev_mul (see ev_int) (ev_see 2)))) ev_int))))
theorem ok_p_ranked : FnG P w W.K mg base CX0 3 T.p_ranked.f T.p_ranked.fd ["low", "high", "rank"] (spEv W 3 p_ranked) :=
  fn_ev T.p_ranked.fn sc_p_ranked rfl rfl fun cdv A out s H E hg hr =>
    (et_one (es_ret (ev_blt (b_max rfl rfl) (by rfl) T.n_max bt_max (es_cons (see ev_int) (es_cons (see (ev_sub (see (ev_call (ok_p_ranked_up_to T) hg (hr.mono (by decide)) (by rfl) T.p_ranked_up_to.gl T.p_ranked_up_to.fn.kp T.p_ranked_up_to.bd pass00 (ea_cons (ev_var 1) (ea_cons (ev_var 2) ea_nil)))) (see (ev_call (ok_p_ranked_up_to T) hg (hr.mono (by decide)) (by rfl) T.p_ranked_up_to.gl T.p_ranked_up_to.fn.kp T.p_ranked_up_to.bd pass00 (ea_cons (ev_sub (ev_see 0) (see ev_int)) (ea_cons (ev_var 2) ea_nil)))))) es_nil)))))
theorem ok_p_kept_between : FnG P w W.K mg base CX0 4 T.p_kept_between.f T.p_kept_between.fd ["rule", "tick", "low", "high"] (spEv W 4 p_kept_between) :=
  fn_ev T.p_kept_between.fn sc_p_kept_between rfl rfl fun cdv A out s H E hg hr =>
    (et_cons (es_set sc_p_kept_between.nd ev_int)
    (et_cons (es_for PassesOwn.never rfl (ei_range1 (by rfl) T.n_range (es_cons (see (ev_ruLen rfl T.om_p_Rule_len ((ok_p_Rule_len T).pos0 T.b_p_Rule_len) hg (hr.mono (by decide)) pass00 (by rfl) T.n_len bt_len (ea_cons (ev_var 0) ea_nil))) es_nil)) (eg_name 5 sc_p_kept_between.nd)
    (et_cons (es_par rfl sc_p_kept_between.nd (ev_blt (b_max rfl rfl) (by rfl) T.n_max bt_max (es_cons (ev_see 2) (es_cons (see (ev_call (ok_p_oldest_kept T) hg (hr.mono (by decide)) (by rfl) T.p_oldest_kept.gl T.p_oldest_kept.fn.kp T.p_oldest_kept.bd pass00 (ea_cons (ev_var 0) (ea_cons (ev_var 1) (ea_cons (ev_var 5) ea_nil))))) es_nil))) (ev_blt (b_min rfl rfl) (by rfl) T.n_min bt_min (es_cons (ev_see 3) (es_cons (ev_see 1) es_nil))))
    (et_one (es_if (ev_cmpT (c_eqP rfl hr.units) (ev_see 5) (see (ev_sub (see (ev_ruLen rfl T.om_p_Rule_len ((ok_p_Rule_len T).pos0 T.b_p_Rule_len) hg (hr.mono (by decide)) pass00 (by rfl) T.n_len bt_len (ea_cons (ev_var 0) ea_nil))) (see ev_int))))
    (et_one (es_iadd sc_p_kept_between.nd (see (ev_call (ok_p_multiples T) hg (hr.mono (by decide)) (by rfl) T.p_multiples.gl T.p_multiples.fn.kp T.p_multiples.bd pass00 (ea_cons (ev_var 6) (ea_cons (ev_var 7) (ea_cons (ev_call (ok_p_size_of T) hg (hr.mono (by decide)) (by rfl) T.p_size_of.gl T.p_size_of.fn.kp T.p_size_of.bd pass00 (ea_cons (ev_var 5) ea_nil)) ea_nil)))))))
    (et_one (es_iadd sc_p_kept_between.nd (see (ev_call (ok_p_ranked T) hg (hr.mono (by decide)) (by rfl) T.p_ranked.gl T.p_ranked.fn.kp T.p_ranked.bd pass00 (ea_cons (ev_var 6) (ea_cons (ev_var 7) (ea_cons (ev_var 5) ea_nil)))))))))))
    (et_one (es_ret (ev_var 4)))))
theorem ok_p_kept_count : FnG P w W.K mg base CX0 5 T.p_kept_count.f T.p_kept_count.fd ["rule", "tick"] (spEv W 2 p_kept_count) :=
  fn_ev T.p_kept_count.fn sc_p_kept_count rfl rfl fun cdv A out s H E hg hr =>
    (et_one (es_ret (ev_call (ok_p_kept_between T) hg (hr.mono (by decide)) (by rfl) T.p_kept_between.gl T.p_kept_between.fn.kp T.p_kept_between.bd pass00 (ea_cons (ev_var 0) (ea_cons (ev_var 1) (ea_cons ev_int (ea_cons (ev_var 1) ea_nil)))))))
theorem ok_p_Store_size : FnG P w W.K mg base CX0 6 T.p_Store_size.f T.p_Store_size.fd ["self"] (spEv W 1 p_Store_size) :=
  fn_ev T.p_Store_size.fn sc_p_Store_size rfl rfl fun cdv A out s H E hg hr =>
    (et_cons (es_asg (ev_cob rfl T.so (ev_var 0)) (eg_tup rfl rfl (egs_cons (eg_name 1 sc_p_Store_size.nd) (egs_cons (eg_name 2 sc_p_Store_size.nd) (egs_cons (eg_name 3 sc_p_Store_size.nd) (egs_cons (eg_name 4 sc_p_Store_size.nd) egs_nil))))))
    (et_one (es_ret (ev_sub (see (ev_call (ok_p_kept_count T) hg (hr.mono (by decide)) (by rfl) T.p_kept_count.gl T.p_kept_count.fn.kp T.p_kept_count.bd pass00 (ea_cons (ev_var 3) (ea_cons (ev_var 1) ea_nil)))) (see (ev_blt (b_len rfl) (by rfl) T.n_len bt_len (es_cons (ev_see 4) es_nil)))))))
theorem oz_p_first_of : FnOk P w W.K mg base CX0 4 T.p_first_of.f T.p_first_of.fd ["rule", "tick", "index"] (spEv W 3 p_first_of) :=
  fnZ_ev T.p_first_of.fn sc_p_first_of rfl rfl fun cdv A out s H E hr =>
    (et_cons (es_par rfl sc_p_first_of.nd (ev_callZ (oz_p_oldest_kept T) (hr.mono (by decide)) (by rfl) T.p_oldest_kept.gl T.p_oldest_kept.fn.kp T.p_oldest_kept.bd pass00 (ea_cons (ev_var 0) (ea_cons (ev_var 1) (ea_cons (ev_var 2) ea_nil)))) (ev_callZ (oz_p_size_of T) (hr.mono (by decide)) (by rfl) T.p_size_of.gl T.p_size_of.fn.kp T.p_size_of.bd pass00 (ea_cons (ev_var 2) ea_nil)))
    (et_cons (es_if (ev_cmpT (c_eqP rfl hr.units) (ev_see 2) (see (ev_sub (see (ev_ruLenZ rfl T.om_p_Rule_len (FnZ.of (oz_p_Rule_len T) T.b_p_Rule_len) (hr.mono (by decide)) pass00 (by rfl) T.n_len bt_len (ea_cons (ev_var 0) ea_nil))) (see ev_int))))
    (et_one (es_ret (ev_add rfl (ev_see 3) (see (ev_mod (see (ev_neg (ev_see 3))) (ev_see 4))))))
    et_nil)
    (et_one (es_ret (ev_add rfl (ev_see 3) (see (ev_mod (see (ev_sub (ev_see 4) (ev_see 3))) (see (ev_mul (see ev_int) (ev_see 4))))))))))
theorem oz_p_gap_of : FnOk P w W.K mg base CX0 3 T.p_gap_of.f T.p_gap_of.fd ["rule", "index"] (spEv W 2 p_gap_of) :=
  fnZ_ev T.p_gap_of.fn sc_p_gap_of rfl rfl fun cdv A out s H E hr =>
    (et_one (es_ret (ev_if (ev_cmpT (c_eqP rfl hr.units) (ev_see 1) (see (ev_sub (see (ev_ruLenZ rfl T.om_p_Rule_len (FnZ.of (oz_p_Rule_len T) T.b_p_Rule_len) (hr.mono (by decide)) pass00 (by rfl) T.n_len bt_len (ea_cons (ev_var 0) ea_nil))) (see ev_int)))) (ev_callZ (oz_p_size_of T) (hr.mono (by decide)) (by rfl) T.p_size_of.gl T.p_size_of.fn.kp T.p_size_of.bd pass00 (ea_cons (ev_var 1) ea_nil)) (ev_mul (see ev_int) (see (ev_callZ (oz_p_size_of T) (hr.mono (by decide)) (by rfl) T.p_size_of.gl T.p_size_of.fn.kp T.p_size_of.bd pass00 (ea_cons (ev_var 1) ea_nil)))))))
theorem ok_p_kept : GFn P w W.K mg base 5 T.p_kept.f T.p_kept.fd ["rule", "tick"] (spGen W 2 p_kept) :=
  gfn_ev T.p_kept.fn sc_p_kept rfl rfl fun cdv A out s H E pn hr =>
    (ggs_cons (gg_plain (ev_sameS (es_setLc rfl sc_p_kept.nd (sw_true rfl rfl rfl (by decide +kernel)) (own := [("index", 3)]) (ei_range1 (by rfl) T.n_range (es_cons (see (ev_ruLenZ rfl T.om_p_Rule_len (FnZ.of (oz_p_Rule_len T) T.b_p_Rule_len) (hr.mono (by decide)) pass00 (by rfl) T.n_len bt_len (ea_cons (ev_var 0) ea_nil))) es_nil)) (blkOk_by (N := ["rule", "tick", "ahead", "index"]) (sc := defScope t_p_kept) (by decide +kernel)) (fun _ _ _ _ _ => (eg_name 3 sc_p_kept.nd)) (fun _ _ _ _ _ => epts_nil) (fun _ _ _ _ _ => (ev_callZ (oz_p_first_of T) (hr.mono (by decide)) (by rfl) T.p_first_of.gl T.p_first_of.fn.kp T.p_first_of.bd pass00 (ea_cons (ev_var 0) (ea_cons (ev_var 1) (ea_cons (ev_var 3) ea_nil))))))))
    (ggs_cons (gg_while 100000 owns_gcx (ev_sameB (ev_cmpT c_le (see (ev_blt (b_min rfl rfl) (by rfl) T.n_min bt_min (es_cons (ev_see 2) es_nil))) (ev_see 1)))
    (ggs_cons (gg_plain (ev_sameS (es_set sc_p_kept.nd (ev_index rfl (ev_see 2) (ev_blt (b_min rfl rfl) (by rfl) T.n_min bt_min (es_cons (ev_see 2) es_nil))))))
    (ggs_cons (gg_yield (ev_sameM (ev_ix rfl (ev_see 2) (ev_see 3))))
    (ggs_cons (gg_plain (ev_sameS (es_augI 2 (ev_var 3) (ev_callZ (oz_p_gap_of T) (hr.mono (by decide)) (by rfl) T.p_gap_of.gl T.p_gap_of.fn.kp T.p_gap_of.bd pass00 (ea_cons (ev_var 0) (ea_cons (ev_var 3) ea_nil))))))
    ggs_nil))))
    ggs_nil))
theorem new_p_kept : GNew P w W mg base 5 2 T.p_kept.f T.p_kept.fd ["rule", "tick"] p_kept :=
  gnew_of T.p_kept.fn sc_p_kept rfl rfl fun cdv A out L B hr =>
    (g2s_cons (g2_plain fun _ _ => ((es_setLc rfl sc_p_kept.nd (sw_true rfl rfl rfl (by decide +kernel)) (own := [("index", 3)]) (ei_range1 (by rfl) T.n_range (es_cons (see (ev_ruLenZ rfl T.om_p_Rule_len (FnZ.of (oz_p_Rule_len T) T.b_p_Rule_len) (hr.mono (by decide)) pass00 (by rfl) T.n_len bt_len (ea_cons (ev_var 0) ea_nil))) es_nil)) (blkOk_by (N := ["rule", "tick", "ahead", "index"]) (sc := defScope t_p_kept) (by decide +kernel)) (fun _ _ _ _ _ => (eg_name 3 sc_p_kept.nd)) (fun _ _ _ _ _ => epts_nil) (fun _ _ _ _ _ => (ev_callZ (oz_p_first_of T) (hr.mono (by decide)) (by rfl) T.p_first_of.gl T.p_first_of.fn.kp T.p_first_of.bd pass00 (ea_cons (ev_var 0) (ea_cons (ev_var 1) (ea_cons (ev_var 3) ea_nil))))))))
    (g2s_cons (g2_while 100000 (fun _ _ => (ev_cmpT c_le (see (ev_blt (b_min rfl rfl) (by rfl) T.n_min bt_min (es_cons (ev_see 2) es_nil))) (ev_see 1)))
    (g2s_cons (g2_plain fun _ _ => ((es_set sc_p_kept.nd (ev_index rfl (ev_see 2) (ev_blt (b_min rfl rfl) (by rfl) T.n_min bt_min (es_cons (ev_see 2) es_nil))))))
    (g2s_cons (g2_yield fun _ _ => ((ev_ix rfl (ev_see 2) (ev_see 3))))
    (g2s_cons (g2_plain fun _ _ => ((es_augI 2 (ev_var 3) (ev_callZ (oz_p_gap_of T) (hr.mono (by decide)) (by rfl) T.p_gap_of.gl T.p_gap_of.fn.kp T.p_gap_of.bd pass00 (ea_cons (ev_var 0) (ea_cons (ev_var 3) ea_nil))))))
    g2s_nil))))
    g2s_nil))
theorem ok_p_Store_points : FnG P w W.K mg base CX0 9 T.p_Store_points.f T.p_Store_points.fd ["self"] (spEv W 1 p_Store_points) :=
  fn_ev T.p_Store_points.fn sc_p_Store_points rfl rfl fun cdv A out s H E hg hr =>
    (et_cons (es_if (ev_cmpT c_gt (see (ev_mth0 (pl := _) rfl T.so T.ms_p_Store_size (by decide) ((ok_p_Store_size T).pos0 T.b_p_Store_size) hg (hr.mono (by decide)) pass00 (ev_var 0))) (see (ev_gint (by rfl) T.k_MOST_POINTS)))
    (et_one es_bad)
    et_nil)
    (et_cons (es_asg (ev_cob rfl T.so (ev_var 0)) (eg_tup rfl rfl (egs_cons (eg_name 1 sc_p_Store_points.nd) (egs_cons (eg_name 2 sc_p_Store_points.nd) (egs_cons (eg_name 3 sc_p_Store_points.nd) (egs_cons (eg_name 4 sc_p_Store_points.nd) egs_nil))))))
    (et_one (es_ret (ev_ty (b_tuple rfl) (by rfl) T.n_tuple bt_tuple (es_cons (see (ev_val (ev_lcG (own := [("point", 5)]) (by rfl) (new_p_kept T) (hr.mono (by decide)) (hr.mono (by decide)) (by rfl) T.p_kept.gl T.p_kept.fn.kp T.p_kept.bd (ea_cons (ev_var 3) (ea_cons (ev_var 1) ea_nil)) rfl sc_p_Store_points.nd (blkOk_by (N := ["self", "now", "force", "keeping", "lost", "point"]) (sc := defScope t_p_Store_points) (by decide +kernel)) (fun _ _ _ _ _ => (eg_name 5 sc_p_Store_points.nd)) (fun _ _ _ _ _ => (epts_one (ev_ninT rfl (ev_see 5) (ev_see 4)))) (fun _ _ _ _ _ => ev_var 5)))) es_nil))))))
theorem ok_q_is_same : FnG P w W.K mg base CX0 10 T.q_is_same.f T.q_is_same.fd ["_law_store", "_law_model"] (spEv W 2 q_is_same) :=
  fn_ev T.q_is_same.fn sc_q_is_same rfl rfl fun cdv A out s H E hg hr =>
    (et_cons (es_if (ev_cmpT (c_neP rfl hr.units) (see (ev_blt (b_repr rfl hg hr.units) (by rfl) T.n_repr bt_repr (es_cons (see (ev_tup (ea_cons (ev_prpS rfl T.so T.q_p_Store_tick (oz_p_Store_tick T) (hr.mono (by decide)) T.b_p_Store_tick (ev_var 0)) (ea_cons (ev_mth0 (pl := _) rfl T.so T.ms_p_Store_size (by decide) ((ok_p_Store_size T).pos0 T.b_p_Store_size) hg (hr.mono (by decide)) pass00 (ev_var 0)) (ea_cons (ev_mth0 (pl := _) rfl T.so T.ms_p_Store_points (by decide) ((ok_p_Store_points T).pos0 T.b_p_Store_points) hg (hr.mono (by decide)) pass00 (ev_var 0)) ea_nil))))) es_nil))) (see (ev_blt (b_repr rfl hg hr.units) (by rfl) T.n_repr bt_repr (es_cons (see (ev_tup (ea_cons (ev_ix rfl (ev_see 1) (see ev_int)) (ea_cons (ev_blt (b_len rfl) (by rfl) T.n_len bt_len (es_cons (see (ev_ix rfl (ev_see 1) (see ev_int))) es_nil)) (ea_cons (ev_ty (b_tuple rfl) (by rfl) T.n_tuple bt_tuple (es_cons (see (ev_ix rfl (ev_see 1) (see ev_int))) es_nil)) ea_nil))))) es_nil))))
    (et_one (es_ret ev_bl))
    et_nil)
    (et_one (es_ret (ev_cmpRu (c_ruE (neg := false) rfl T.ownc T.oe_p_Rule_eq ((ok_p_Rule_eq T).pos0 T.b_p_Rule_eq) hg (hr.mono (by decide)) pass00) (ev_prpS rfl T.so T.q_p_Store_rule (oz_p_Store_rule T) (hr.mono (by decide)) T.b_p_Store_rule (ev_var 0)) (ev_cmeth (pl := _) (ev_cls (c := 0) (by rfl) T.g0) T.c0.cr T.r_p_Rule_of ((ok_p_Rule_of T).pos0 T.b_p_Rule_of) hg (hr.mono (by decide)) pass00 (ea_cons (ev_ix rfl (ev_see 1) (see ev_int)) ea_nil))))))
theorem ok_q_lives_on : FnG P w W.K mg base CX0 2 T.q_lives_on.f T.q_lives_on.fd ["_law_lives", "_law_point", "_law_now"] (spEv W 3 q_lives_on) :=
  fn_ev T.q_lives_on.fn sc_q_lives_on rfl rfl fun cdv A out s H E hg hr =>
    (et_cons (es_set sc_q_lives_on.nd (ev_call (ok_q_lifev T) hg (hr.mono (by decide)) (by rfl) T.q_lifev.gl T.q_lifev.fn.kp T.q_lifev.bd pass00 (ea_cons (ev_var 0) (ea_cons (ev_var 1) ea_nil))))
    (et_one (es_ret (ev_and (ev_chain c_le c_le (see ev_int) (ev_see 1) (ev_see 2)) (ev_one (ev_or (ev_cmp c_isN (ev_see 3) (see ev_non)) (ev_one (ev_cmp c_lt (see (ev_sub (ev_see 2) (ev_see 1))) (ev_see 3)))))))))
theorem ok_q_model_of : FnG P w W.K mg base CX0 3 T.q_model_of.f T.q_model_of.fd ["_law_lives", "_law_now"] (spEv W 2 q_model_of) :=
  fn_ev T.q_model_of.fn sc_q_model_of rfl rfl fun cdv A out s H E hg hr =>
    (et_one (es_retCell (ev_tupF (ea_cons (ev_var 1) (ea_cons (ev_var 0) (ea_cons (ev_val (ev_lc (own := [("_law_point", 2)]) rfl sc_q_model_of.nd (ei_range1 (by rfl) T.n_range (es_cons (see (ev_add rfl (ev_see 1) (see ev_int))) es_nil)) (blkOk_by (N := ["_law_lives", "_law_now", "_law_point"]) (sc := defScope t_q_model_of) (by decide +kernel)) (fun _ _ _ _ _ => (eg_name 2 sc_q_model_of.nd)) (fun _ _ _ _ _ => (epts_one (ev_test (ev_call (ok_q_lives_on T) hg (hr.mono (by decide)) (by rfl) T.q_lives_on.gl T.q_lives_on.fn.kp T.q_lives_on.bd pass00 (ea_cons (ev_var 0) (ea_cons (ev_var 2) (ea_cons (ev_var 1) ea_nil))))))) (fun _ _ _ _ _ => ev_var 2))) ea_nil))))))
theorem ok_q_right (B : Tbs T base) : FnG P w W.K mg base CX0 22 T.q_right.f T.q_right.fd ["_law_pot"] (spEv W 1 q_right) :=
  fnL_ev T.q_right.fn T.hcd0 sc_q_right rfl rfl fun A out s H E hg hr =>
    (et_cons (es_set sc_q_right.nd (ev_call (ok_q_drawn_lives T) hg (hr.mono (by decide)) (by rfl) T.q_drawn_lives.gl T.q_drawn_lives.fn.kp T.q_drawn_lives.bd pass00 (ea_cons (ev_var 0) (ea_cons ev_int ea_nil))))
    (et_cons (es_set sc_q_right.nd (ev_cmeth (pl := _) (ev_cls (c := 0) (by rfl) T.g0) T.c0.cr T.r_p_Rule_of ((ok_p_Rule_of T).pos0 T.b_p_Rule_of) hg (hr.mono (by decide)) pass00 (ea_cons (ev_var 1) ea_nil)))
    (et_cons (es_for PassesOwn.never rfl (ei_seq rfl (ev_tup (ea_cons (ev_call (ok_q_takevv T) hg (hr.mono (by decide)) (by rfl) T.q_takevv.gl T.q_takevv.fn.kp T.q_takevv.bd pass00 (ea_cons (ev_var 0) (ea_cons ev_int ea_nil))) (ea_cons (ev_call (ok_q_oddv T) hg (hr.mono (by decide)) (by rfl) T.q_oddv.gl T.q_oddv.fn.kp T.q_oddv.bd pass00 (ea_cons (ev_var 0) ea_nil)) (ea_cons (ev_call (ok_q_ofv T) hg (hr.mono (by decide)) (by rfl) T.q_ofv.gl T.q_ofv.fn.kp T.q_ofv.bd pass00 (ea_cons (ev_var 0) (ea_cons (ev_val (ev_tupF (ea_cons (ev_con (ev_pow (see ev_int) (see ev_int)) (fun _ _ => by with_unfolding_all rfl)) (ea_cons (ev_add rfl (see (ev_con (ev_pow (see ev_int) (see ev_int)) (fun _ _ => by with_unfolding_all rfl))) (see ev_int)) (ea_cons (ev_neg (see ev_int)) (ea_cons (ev_sub (see (ev_con (ev_pow (see ev_int) (see ev_int)) (fun _ _ => by with_unfolding_all rfl))) (see ev_int)) ea_nil)))))) ea_nil))) ea_nil))))) (eg_name 3 sc_q_right.nd)
    (et_cons (es_set sc_q_right.nd (ev_if (ev_test (ev_call (ok_q_is_integer T) hg (hr.mono (by decide)) (by rfl) T.q_is_integer.gl T.q_is_integer.fn.kp T.q_is_integer.bd pass00 (ea_cons (ev_var 3) (ea_cons (ev_con (ev_pow (see ev_int) (see ev_int)) (fun _ _ => by with_unfolding_all rfl)) ea_nil)))) (ev_tup (ea_cons ev_non (ea_cons ev_non ea_nil))) (ev_tup (ea_cons ev_str (ea_cons (ev_var 3) ea_nil)))))
    (et_cons (es_if (ev_cmpT (c_neP rfl hr.units) (see (ev_blt (b_repr rfl hg hr.units) (by rfl) T.n_repr bt_repr (es_cons (see (ev_told (n := 0) (k := 19) (kT := 20) (NT := ["_law_ask", "error", "_law_caught", "_law_found"]) rfl (by rfl) T.q_refusal.gl T.q_refusal.fn.kp T.q_refusal.fn sc_q_refusal rfl (Or.inl rfl) T.q_refusal.bd (ok_q_refusal T) hg (hr.mono (by decide)) (by decide) B.b0 rfl T.tq0 (LamX.lamS_by (sc := defScope t_q_right) (by decide +kernel)) rfl (fun _ _ _ _ _ => rfl) fun A outer s H E f c hg hr =>
      (ev_makeK (n := 1) (ks := ["tick"]) T.m_p_Store_initv (ok_p_Store_initv T) hg (hr.mono (by decide)) (passX (takes_of rfl rfl rfl rfl)) T.bk_p_Store_initv (by rfl) T.g2 (ea_cons (ev_var 2) ea_nil) (ek_one (ev_var 3))))) es_nil))) (see (ev_blt (b_repr rfl hg hr.units) (by rfl) T.n_repr bt_repr (es_cons (ev_see 4) es_nil))))
    (et_one (es_ret ev_bl))
    et_nil)
    (et_one (es_if (ev_cmpT (c_eqT rfl hr.units) (ev_see 4) (see (ev_tup (ea_cons ev_non (ea_cons ev_non ea_nil)))))
    (et_cons (es_set sc_q_right.nd (ev_no (ev_makeK (n := 1) (ks := ["tick"]) T.m_p_Store_initv (ok_p_Store_initv T) hg (hr.mono (by decide)) passN T.bk_p_Store_initv (by rfl) T.g2 (ea_cons (ev_var 2) ea_nil) (ek_one (ev_var 3)))))
    (et_cons (es_if (PW.pt (evw_or (ev_cmpT (c_neP rfl hr.units) (see (ev_blt (b_repr rfl hg hr.units) (by rfl) T.n_repr bt_repr (es_cons (see (ev_prpS rfl T.so T.q_p_Store_tick (oz_p_Store_tick T) (hr.mono (by decide)) T.b_p_Store_tick (ev_var 5))) es_nil))) (see (ev_blt (b_repr rfl hg hr.units) (by rfl) T.n_repr bt_repr (es_cons (ev_see 3) es_nil)))) (evw_or1 (ev_cmpRuT (c_ruE (neg := true) rfl T.ownc T.oe_p_Rule_eq ((ok_p_Rule_eq T).pos0 T.b_p_Rule_eq) hg (hr.mono (by decide)) pass00) (ev_prpS rfl T.so T.q_p_Store_rule (oz_p_Store_rule T) (hr.mono (by decide)) T.b_p_Store_rule (ev_var 5)) (ev_var 2)))))
    (et_one (es_ret ev_bl))
    et_nil)
    (et_cons (es_if (ev_cmpT (c_neP rfl hr.units) (see (ev_cmpRu (c_obIn (neg := false) rfl T.ow_p_Store_contains ((ok_p_Store_contains T).pos0 T.b_p_Store_contains) hg (hr.mono (by decide)) pass00) (ev_var 3) (ev_var 5))) (see (ev_cmp (c_neP rfl hr.units) (see (ev_call (ok_q_lifev T) hg (hr.mono (by decide)) (by rfl) T.q_lifev.gl T.q_lifev.fn.kp T.q_lifev.bd pass00 (ea_cons (ev_var 1) (ea_cons (ev_var 3) ea_nil)))) (see ev_int))))
    (et_one (es_ret ev_bl))
    et_nil)
    (et_one (es_if (PW.pt (evw_and (ev_cmpT c_lt (ev_see 3) (see ev_int)) (evw_and1 (evt_not (ev_test (ev_call (ok_q_is_same T) hg (hr.mono (by decide)) (by rfl) T.q_is_same.gl T.q_is_same.fn.kp T.q_is_same.bd pass00 (ea_cons (ev_var 5) (ea_cons (ev_call (ok_q_model_of T) hg (hr.mono (by decide)) (by rfl) T.q_model_of.gl T.q_model_of.fn.kp T.q_model_of.bd pass00 (ea_cons (ev_var 1) (ea_cons (ev_var 3) ea_nil))) ea_nil))))))))
    (et_one (es_ret ev_bl))
    et_nil)))))
    et_nil)))))
    (et_one (es_ret (ev_call (ok_q_is_same T) hg (hr.mono (by decide)) (by rfl) T.q_is_same.gl T.q_is_same.fn.kp T.q_is_same.bd pass00 (ea_cons (ev_no (ev_makeC T.m_p_Store_initv (in_dfl (ok_p_Store_initv T) T.bd_p_Store_initv fun _ _ => ⟨_, _, rfl, rfl, rfl⟩) hg (hr.mono (by decide)) passN (by rfl) T.g2 (ea_cons (ev_var 2) ea_nil))) (ea_cons (ev_call (ok_q_model_of T) hg (hr.mono (by decide)) (by rfl) T.q_model_of.gl T.q_model_of.fn.kp T.q_model_of.bd pass00 (ea_cons (ev_var 1) (ea_cons ev_int ea_nil))) ea_nil))))))))
theorem ok_q_law (B : Tbs T base) : FnG P w W.K mg base CX0 23 T.q_law.f T.q_law.fd ["_law_script"] (spEv W 1 q_law) :=
  fn_ev T.q_law.fn sc_q_law rfl rfl fun cdv A out s H E hg hr =>
    (et_cons (es_for PassesOwn.never rfl (ei_range1 (by rfl) T.n_range (es_cons (see (ev_blt (b_max rfl rfl) (by rfl) T.n_max bt_max (es_cons (see ev_int) (es_cons (see (ev_blt (b_min rfl rfl) (by rfl) T.n_min bt_min (es_cons (see ev_int) (es_cons (see (ev_blt (b_len rfl) (by rfl) T.n_len bt_len (es_cons (ev_see 0) es_nil))) es_nil)))) es_nil)))) es_nil)) (eg_name 1 sc_q_law.nd)
    (et_cons (es_set sc_q_law.nd (ev_call (ok_q_pot_of T) hg (hr.mono (by decide)) (by rfl) T.q_pot_of.gl T.q_pot_of.fn.kp T.q_pot_of.bd pass00 (ea_cons (ev_var 0) (ea_cons (ev_var 1) ea_nil))))
    (et_one (es_if (evt_not (ev_test (ev_blt (b_all rfl rfl) (by rfl) T.n_all bt_all (es_cons (see (ev_val (ev_lc (own := [("_law_turn", 3)]) rfl sc_q_law.nd (ei_range1 (by rfl) T.n_range (es_cons (see ev_int) es_nil)) (blkOk_by (N := ["_law_script", "_law_k", "_law_pot", "_law_turn"]) (sc := defScope t_q_law) (by decide +kernel)) (fun _ _ _ _ _ => (eg_name 3 sc_q_law.nd)) (fun _ _ _ _ _ => epts_nil) (fun _ _ _ _ _ => (ev_call (ok_q_right T B) hg (hr.mono (by decide)) (by rfl) T.q_right.gl T.q_right.fn.kp T.q_right.bd pass00 (ea_cons (ev_var 2) ea_nil)))))) es_nil))))
    (et_one (es_ret ev_bl))
    et_nil))))
    (et_one (es_ret ev_bl)))
end
theorem all_mk {l : PySem.W.OpenLaw} {w : World} {K : PySem.W.Frag} {h : Heap} {mg : Str → Option Value} {fa : Addr} (X : K.In h) (G : h.Ns mainGlobals mg) (hfa : mg "law" = some (.ref fa))
    {C0 C1 C2 f0 f1 f2 f3 f4 d4 f5 p5 f6 f7 f8 p8 f9 f10 f11 f12 f13 d13 f14 p14 f15 f16 p16 f17 f18 f19 f20 f21 f22 f23 f24 f25 f26 f27 f28 f29 f30 f31 f32 f33 f34 f35 f36 f37 f38 f39 ca0 P0 f40 f41 p41 E0 E1 E2 E3 E4 E5 E6 xf0 xcc0 xca0 xN0 : Addr}
    (aC0 : PySem.W.nsIn K mainGlobals "Rule" = some (some (.ref C0)))
    (pg0 : PySem.W.plainGet K C0 Str.empty = true)
    (hd0 : PySem.W.hasDictIn K C0 = true)
    (po0 : PySem.W.plainOver K C0 = true)
    (sa0 : PySem.W.findIn K (.ref C0) "__setattr__" = some (some (.builtin "object.__setattr__")))
    (rd0 : PySem.W.readsIn K C0 (.type "type") = true)
    (ga0 : PySem.W.specialIn K (.ref C0) "__getattribute__" = some (some (.builtin "type.__getattribute__")))
    (nh0 : PySem.W.findIn K (.ref C0) "held_lives" = some none)
    (mk0 : PySem.W.makesIn K C0 = true)
    (kc0 : PySem.W.keepIn K (.ref C0) = true)
    (aC1 : PySem.W.nsIn K mainGlobals "LongRule" = some (some (.ref C1)))
    (pg1 : PySem.W.plainGet K C1 Str.empty = true)
    (hd1 : PySem.W.hasDictIn K C1 = true)
    (po1 : PySem.W.plainOver K C1 = true)
    (sa1 : PySem.W.findIn K (.ref C1) "__setattr__" = some (some (.builtin "object.__setattr__")))
    (rd1 : PySem.W.readsIn K C1 (.type "type") = true)
    (ga1 : PySem.W.specialIn K (.ref C1) "__getattribute__" = some (some (.builtin "type.__getattribute__")))
    (nh1 : PySem.W.findIn K (.ref C1) "held_lives" = some none)
    (aC2 : PySem.W.nsIn K mainGlobals "Store" = some (some (.ref C2)))
    (pg2 : PySem.W.plainGet K C2 Str.empty = true)
    (hd2 : PySem.W.hasDictIn K C2 = true)
    (po2 : PySem.W.plainOver K C2 = true)
    (sa2 : PySem.W.findIn K (.ref C2) "__setattr__" = some (some (.builtin "object.__setattr__")))
    (rd2 : PySem.W.readsIn K C2 (.type "type") = true)
    (ga2 : PySem.W.specialIn K (.ref C2) "__getattribute__" = some (some (.builtin "type.__getattribute__")))
    (nh2 : PySem.W.findIn K (.ref C2) "held_state" = some none)
    (mk2 : PySem.W.makesIn K C2 = true)
    (kc2 : PySem.W.keepIn K (.ref C2) = true)
    (ow0 : PySem.W.selfFirst K C0 = true)
    (ow1 : PySem.W.selfFirst K C1 = true)
    (ow2 : PySem.W.subIn K (.ref C1) (.ref C0) = some true)
    (ow3 : PySem.W.subIn K (.ref C0) (.ref C1) = some false)
    (ia0_0 : PySem.W.findIn K (.ref C0) "__class__" = some (some (.builtin "object.__class__")))
    (ia0_1 : PySem.W.findIn K (.ref C1) "__class__" = some (some (.builtin "object.__class__")))
    (ib0 : PySem.W.specialIn K (.builtin "object.__class__") "__get__" = some (some (.builtin "getset_descriptor.__get__")))
    (ic0 : PySem.W.takesIn K (.builtin "object.__class__") = some true)
    (id0_0 : PySem.W.mroIn K C0 (.type "object") = some true)
    (id0_1 : PySem.W.mroIn K C1 (.type "object") = some true)
    (ie0_0 : PySem.W.kitOne K (.ref C0) (.ref C0) = some true)
    (ie0_1 : PySem.W.kitOne K (.ref C1) (.ref C0) = some true)
    (if0_NoneType : PySem.W.kitOne K (.type "NoneType") (.ref C0) = some false)
    (if0_bool : PySem.W.kitOne K (.type "bool") (.ref C0) = some false)
    (if0_int : PySem.W.kitOne K (.type "int") (.ref C0) = some false)
    (if0_str : PySem.W.kitOne K (.type "str") (.ref C0) = some false)
    (if0_tuple : PySem.W.kitOne K (.type "tuple") (.ref C0) = some false)
    (if0_list : PySem.W.kitOne K (.type "list") (.ref C0) = some false)
    (if0_dict : PySem.W.kitOne K (.type "dict") (.ref C0) = some false)
    {od0 an0 : Option Addr} {sl0 : Array (Option Value)} {oc0 kV0 dc0 pm0 cd0 ct0 : Value}
    (a0 : PySem.W.nsIn K mainGlobals "_law_pot_of" = some (some (.ref f0)))
    (l0 : K.lookup f0 = some ⟨oc0, od0, .func (PySem.W.fnOf "_law_pot_of" "_law_pot_of" (defArgs t_q_pot_of) (defBody t_q_pot_of) (defScope t_q_pot_of) .none kV0 dc0 pm0 an0 cd0 ct0), sl0⟩)
    (c0 : PySem.W.codeIn K cd0 "_law_pot_of" = true)
    (k0 : PySem.W.keepIn K (.ref f0) = true)
    {od1 an1 : Option Addr} {sl1 : Array (Option Value)} {oc1 kV1 dc1 pm1 cd1 ct1 : Value}
    (a1 : PySem.W.nsIn K mainGlobals "_law_take" = some (some (.ref f1)))
    (l1 : K.lookup f1 = some ⟨oc1, od1, .func (PySem.W.fnOf "_law_take" "_law_take" (defArgs t_q_takevv) (defBody t_q_takevv) (defScope t_q_takevv) .none kV1 dc1 pm1 an1 cd1 ct1), sl1⟩)
    (c1 : PySem.W.codeIn K cd1 "_law_take" = true)
    (k1 : PySem.W.keepIn K (.ref f1) = true)
    {od2 an2 : Option Addr} {sl2 : Array (Option Value)} {oc2 kV2 dc2 pm2 cd2 ct2 : Value}
    (a2 : PySem.W.nsIn K mainGlobals "_law_of" = some (some (.ref f2)))
    (l2 : K.lookup f2 = some ⟨oc2, od2, .func (PySem.W.fnOf "_law_of" "_law_of" (defArgs t_q_ofv) (defBody t_q_ofv) (defScope t_q_ofv) .none kV2 dc2 pm2 an2 cd2 ct2), sl2⟩)
    (c2 : PySem.W.codeIn K cd2 "_law_of" = true)
    (k2 : PySem.W.keepIn K (.ref f2) = true)
    {od3 an3 : Option Addr} {sl3 : Array (Option Value)} {oc3 kV3 dc3 pm3 cd3 ct3 : Value}
    (a3 : PySem.W.nsIn K mainGlobals "_law_drawn_lives" = some (some (.ref f3)))
    (l3 : K.lookup f3 = some ⟨oc3, od3, .func (PySem.W.fnOf "_law_drawn_lives" "_law_drawn_lives" (defArgs t_q_drawn_lives) (defBody t_q_drawn_lives) (defScope t_q_drawn_lives) .none kV3 dc3 pm3 an3 cd3 ct3), sl3⟩)
    (c3 : PySem.W.codeIn K cd3 "_law_drawn_lives" = true)
    (k3 : PySem.W.keepIn K (.ref f3) = true)
    {od4 an4 : Option Addr} {sl4 : Array (Option Value)} {oc4 kV4 dc4 pm4 cd4 ct4 : Value}
    (a4 : PySem.W.nsIn K mainGlobals "is_integer" = some (some (.ref f4)))
    (l4 : K.lookup f4 = some ⟨oc4, od4, .func (PySem.W.fnOf "is_integer" "is_integer" (defArgs t_p_is_integer) (defBody t_p_is_integer) (defScope t_p_is_integer) (.ref d4) kV4 dc4 pm4 an4 cd4 ct4), sl4⟩)
    {td4 : Option Addr} {ts4 : Array (Option Value)} {tc4 : Value} {tn4 : Nat}
    (t4 : K.lookup d4 = some ⟨tc4, td4, .seq #[Value.none] tn4, ts4⟩)
    (c4 : PySem.W.codeIn K cd4 "is_integer" = true)
    (k4 : PySem.W.keepIn K (.ref f4) = true)
    {od5 an5 : Option Addr} {sl5 : Array (Option Value)} {oc5 kV5 dc5 pm5 cd5 ct5 : Value}
    {rs5 : List Value}
    (a5 : PySem.W.findCls K (.ref C0) (.type "type") "are_lives" = some (.get (.builtin "staticmethod.__get__") (.ref p5) .none (.ref C0)))
    (r5 : PySem.W.recIn K p5 "staticmethod" = some (.ref f5 :: rs5))
    (l5 : K.lookup f5 = some ⟨oc5, od5, .func (PySem.W.fnOf "are_lives" "Rule.are_lives" (defArgs t_p_Rule_are_lives) (defBody t_p_Rule_are_lives) (defScope t_p_Rule_are_lives) .none kV5 dc5 pm5 an5 cd5 ct5), sl5⟩)
    (c5 : PySem.W.codeIn K cd5 "Rule.are_lives" = true)
    (k5 : PySem.W.keepIn K (.ref f5) = true)
    {od6 an6 : Option Addr} {sl6 : Array (Option Value)} {oc6 kV6 dc6 pm6 cd6 ct6 : Value}
    (a6 : PySem.W.nsIn K mainGlobals "shortest" = some (some (.ref f6)))
    (l6 : K.lookup f6 = some ⟨oc6, od6, .func (PySem.W.fnOf "shortest" "shortest" (defArgs t_p_shortest) (defBody t_p_shortest) (defScope t_p_shortest) .none kV6 dc6 pm6 an6 cd6 ct6), sl6⟩)
    (c6 : PySem.W.codeIn K cd6 "shortest" = true)
    (k6 : PySem.W.keepIn K (.ref f6) = true)
    {od7 an7 : Option Addr} {sl7 : Array (Option Value)} {oc7 kV7 dc7 pm7 cd7 ct7 : Value}
    (a7 : PySem.W.findIn K (.ref C0) "__init__" = some (some (.ref f7)))
    (i7 : PySem.W.isFn K (.ref f7) = true)
    (l7 : K.lookup f7 = some ⟨oc7, od7, .func (PySem.W.fnOf "__init__" "Rule.__init__" (defArgs t_p_Rule_init) (defBody t_p_Rule_init) (defScope t_p_Rule_init) .none kV7 dc7 pm7 an7 cd7 ct7), sl7⟩)
    (c7 : PySem.W.codeIn K cd7 "Rule.__init__" = true)
    (k7 : PySem.W.keepIn K (.ref f7) = true)
    {od8 an8 : Option Addr} {sl8 : Array (Option Value)} {oc8 kV8 dc8 pm8 cd8 ct8 : Value}
    {rs8 : List Value}
    (a8 : PySem.W.findCls K (.ref C0) (.type "type") "of" = some (.get (.builtin "classmethod.__get__") (.ref p8) .none (.ref C0)))
    (r8 : PySem.W.recIn K p8 "classmethod" = some (.ref f8 :: rs8))
    (i8 : PySem.W.fnIn K f8 = true)
    (l8 : K.lookup f8 = some ⟨oc8, od8, .func (PySem.W.fnOf "of" "Rule.of" (defArgs t_p_Rule_of) (defBody t_p_Rule_of) (defScope t_p_Rule_of) .none kV8 dc8 pm8 an8 cd8 ct8), sl8⟩)
    (c8 : PySem.W.codeIn K cd8 "Rule.of" = true)
    (k8 : PySem.W.keepIn K (.ref f8) = true)
    {od9 an9 : Option Addr} {sl9 : Array (Option Value)} {oc9 kV9 dc9 pm9 cd9 ct9 : Value}
    (a9 : PySem.W.nsIn K mainGlobals "_law_odd" = some (some (.ref f9)))
    (l9 : K.lookup f9 = some ⟨oc9, od9, .func (PySem.W.fnOf "_law_odd" "_law_odd" (defArgs t_q_oddv) (defBody t_q_oddv) (defScope t_q_oddv) .none kV9 dc9 pm9 an9 cd9 ct9), sl9⟩)
    (c9 : PySem.W.codeIn K cd9 "_law_odd" = true)
    (k9 : PySem.W.keepIn K (.ref f9) = true)
    {od10 an10 : Option Addr} {sl10 : Array (Option Value)} {oc10 kV10 dc10 pm10 cd10 ct10 : Value}
    (a10 : PySem.W.nsIn K mainGlobals "_law_is_integer" = some (some (.ref f10)))
    (l10 : K.lookup f10 = some ⟨oc10, od10, .func (PySem.W.fnOf "_law_is_integer" "_law_is_integer" (defArgs t_q_is_integer) (defBody t_q_is_integer) (defScope t_q_is_integer) .none kV10 dc10 pm10 an10 cd10 ct10), sl10⟩)
    (c10 : PySem.W.codeIn K cd10 "_law_is_integer" = true)
    (k10 : PySem.W.keepIn K (.ref f10) = true)
    {od11 an11 : Option Addr} {sl11 : Array (Option Value)} {oc11 kV11 dc11 pm11 cd11 ct11 : Value}
    (a11 : PySem.W.nsIn K mainGlobals "_law_refusal" = some (some (.ref f11)))
    (l11 : K.lookup f11 = some ⟨oc11, od11, .func (PySem.W.fnOf "_law_refusal" "_law_refusal" (defArgs t_q_refusal) (defBody t_q_refusal) (defScope t_q_refusal) .none kV11 dc11 pm11 an11 cd11 ct11), sl11⟩)
    (c11 : PySem.W.codeIn K cd11 "_law_refusal" = true)
    (k11 : PySem.W.keepIn K (.ref f11) = true)
    {od12 an12 : Option Addr} {sl12 : Array (Option Value)} {oc12 kV12 dc12 pm12 cd12 ct12 : Value}
    (a12 : PySem.W.nsIn K mainGlobals "is_number" = some (some (.ref f12)))
    (l12 : K.lookup f12 = some ⟨oc12, od12, .func (PySem.W.fnOf "is_number" "is_number" (defArgs t_p_is_number) (defBody t_p_is_number) (defScope t_p_is_number) .none kV12 dc12 pm12 an12 cd12 ct12), sl12⟩)
    (c12 : PySem.W.codeIn K cd12 "is_number" = true)
    (k12 : PySem.W.keepIn K (.ref f12) = true)
    {od13 an13 : Option Addr} {sl13 : Array (Option Value)} {oc13 dc13 pm13 cd13 ct13 : Value}
    {u13 : Tok}
    (a13 : PySem.W.findIn K (.ref C2) "__init__" = some (some (.ref f13)))
    (i13 : PySem.W.isFn K (.ref f13) = true)
    (l13 : K.lookup f13 = some ⟨oc13, od13, .func (PySem.W.fnOf "__init__" "Store.__init__" (defArgs t_p_Store_initv) (defBody t_p_Store_initv) (defScope t_p_Store_initv) .none (.ref d13) dc13 pm13 an13 cd13 ct13), sl13⟩)
    (n13 : PySem.W.nsIn K d13 "tick" = some (some (.int 0 u13)))
    (c13 : PySem.W.codeIn K cd13 "Store.__init__" = true)
    (k13 : PySem.W.keepIn K (.ref f13) = true)
    {od14 an14 : Option Addr} {sl14 : Array (Option Value)} {oc14 kV14 dc14 pm14 cd14 ct14 : Value}
    {rs14 : List Value}
    (a14 : PySem.W.findIn K (.ref C2) "tick" = some (some (.ref p14)))
    (s14 : PySem.W.specialIn K (.ref p14) "__get__" = some (some (.builtin "property.__get__")))
    (t14 : PySem.W.takesIn K (.ref p14) = some true)
    (r14 : PySem.W.recIn K p14 "property" = some (.ref f14 :: rs14))
    (l14 : K.lookup f14 = some ⟨oc14, od14, .func (PySem.W.fnOf "tick" "Store.tick" (defArgs t_p_Store_tick) (defBody t_p_Store_tick) (defScope t_p_Store_tick) .none kV14 dc14 pm14 an14 cd14 ct14), sl14⟩)
    (c14 : PySem.W.codeIn K cd14 "Store.tick" = true)
    (k14 : PySem.W.keepIn K (.ref f14) = true)
    {od15 an15 : Option Addr} {sl15 : Array (Option Value)} {oc15 kV15 dc15 pm15 cd15 ct15 : Value}
    (a15_0 : PySem.W.findIn K (.ref C0) "__eq__" = some (some (.ref f15)))
    (a15_1 : PySem.W.findIn K (.ref C1) "__eq__" = some (some (.ref f15)))
    (i15 : PySem.W.isFn K (.ref f15) = true)
    (j15 : PySem.W.fnIn K f15 = true)
    (r15_0 : PySem.W.findIn K (.ref C0) "__ne__" = some (some (.builtin "object.__ne__")))
    (r15_1 : PySem.W.findIn K (.ref C1) "__ne__" = some (some (.builtin "object.__ne__")))
    (h15_0 : PySem.W.subIn K (.ref C0) (.type "object") = some true)
    (h15_1 : PySem.W.subIn K (.ref C1) (.type "object") = some true)
    (l15 : K.lookup f15 = some ⟨oc15, od15, .func (PySem.W.fnOf "__eq__" "Rule.__eq__" (defArgs t_p_Rule_eq) (defBody t_p_Rule_eq) (defScope t_p_Rule_eq) .none kV15 dc15 pm15 an15 cd15 ct15), sl15⟩)
    (c15 : PySem.W.codeIn K cd15 "Rule.__eq__" = true)
    (k15 : PySem.W.keepIn K (.ref f15) = true)
    {od16 an16 : Option Addr} {sl16 : Array (Option Value)} {oc16 kV16 dc16 pm16 cd16 ct16 : Value}
    {rs16 : List Value}
    (a16 : PySem.W.findIn K (.ref C2) "rule" = some (some (.ref p16)))
    (s16 : PySem.W.specialIn K (.ref p16) "__get__" = some (some (.builtin "property.__get__")))
    (t16 : PySem.W.takesIn K (.ref p16) = some true)
    (r16 : PySem.W.recIn K p16 "property" = some (.ref f16 :: rs16))
    (l16 : K.lookup f16 = some ⟨oc16, od16, .func (PySem.W.fnOf "rule" "Store.rule" (defArgs t_p_Store_rule) (defBody t_p_Store_rule) (defScope t_p_Store_rule) .none kV16 dc16 pm16 an16 cd16 ct16), sl16⟩)
    (c16 : PySem.W.codeIn K cd16 "Store.rule" = true)
    (k16 : PySem.W.keepIn K (.ref f16) = true)
    {od17 an17 : Option Addr} {sl17 : Array (Option Value)} {oc17 kV17 dc17 pm17 cd17 ct17 : Value}
    (a17 : PySem.W.nsIn K mainGlobals "is_at_least" = some (some (.ref f17)))
    (l17 : K.lookup f17 = some ⟨oc17, od17, .func (PySem.W.fnOf "is_at_least" "is_at_least" (defArgs t_p_is_at_least) (defBody t_p_is_at_least) (defScope t_p_is_at_least) .none kV17 dc17 pm17 an17 cd17 ct17), sl17⟩)
    (c17 : PySem.W.codeIn K cd17 "is_at_least" = true)
    (k17 : PySem.W.keepIn K (.ref f17) = true)
    {od18 an18 : Option Addr} {sl18 : Array (Option Value)} {oc18 kV18 dc18 pm18 cd18 ct18 : Value}
    (a18 : PySem.W.nsIn K mainGlobals "life_of" = some (some (.ref f18)))
    (l18 : K.lookup f18 = some ⟨oc18, od18, .func (PySem.W.fnOf "life_of" "life_of" (defArgs t_p_life_of) (defBody t_p_life_of) (defScope t_p_life_of) .none kV18 dc18 pm18 an18 cd18 ct18), sl18⟩)
    (c18 : PySem.W.codeIn K cd18 "life_of" = true)
    (k18 : PySem.W.keepIn K (.ref f18) = true)
    {od19 an19 : Option Addr} {sl19 : Array (Option Value)} {oc19 kV19 dc19 pm19 cd19 ct19 : Value}
    (a19 : PySem.W.nsIn K mainGlobals "rank" = some (some (.ref f19)))
    (l19 : K.lookup f19 = some ⟨oc19, od19, .func (PySem.W.fnOf "rank" "rank" (defArgs t_p_rank) (defBody t_p_rank) (defScope t_p_rank) .none kV19 dc19 pm19 an19 cd19 ct19), sl19⟩)
    (c19 : PySem.W.codeIn K cd19 "rank" = true)
    (k19 : PySem.W.keepIn K (.ref f19) = true)
    {od20 an20 : Option Addr} {sl20 : Array (Option Value)} {oc20 kV20 dc20 pm20 cd20 ct20 : Value}
    (a20_0 : PySem.W.findIn K (.ref C0) "__contains__" = some (some (.ref f20)))
    (a20_1 : PySem.W.findIn K (.ref C1) "__contains__" = some (some (.ref f20)))
    (i20 : PySem.W.isFn K (.ref f20) = true)
    (j20 : PySem.W.fnIn K f20 = true)
    (l20 : K.lookup f20 = some ⟨oc20, od20, .func (PySem.W.fnOf "__contains__" "Rule.__contains__" (defArgs t_p_Rule_contains) (defBody t_p_Rule_contains) (defScope t_p_Rule_contains) .none kV20 dc20 pm20 an20 cd20 ct20), sl20⟩)
    (c20 : PySem.W.codeIn K cd20 "Rule.__contains__" = true)
    (k20 : PySem.W.keepIn K (.ref f20) = true)
    {od21 an21 : Option Addr} {sl21 : Array (Option Value)} {oc21 kV21 dc21 pm21 cd21 ct21 : Value}
    (a21 : PySem.W.findIn K (.ref C2) "__contains__" = some (some (.ref f21)))
    (i21 : PySem.W.isFn K (.ref f21) = true)
    (j21 : PySem.W.fnIn K f21 = true)
    (l21 : K.lookup f21 = some ⟨oc21, od21, .func (PySem.W.fnOf "__contains__" "Store.__contains__" (defArgs t_p_Store_contains) (defBody t_p_Store_contains) (defScope t_p_Store_contains) .none kV21 dc21 pm21 an21 cd21 ct21), sl21⟩)
    (c21 : PySem.W.codeIn K cd21 "Store.__contains__" = true)
    (k21 : PySem.W.keepIn K (.ref f21) = true)
    {od22 an22 : Option Addr} {sl22 : Array (Option Value)} {oc22 kV22 dc22 pm22 cd22 ct22 : Value}
    (a22 : PySem.W.nsIn K mainGlobals "_law_life" = some (some (.ref f22)))
    (l22 : K.lookup f22 = some ⟨oc22, od22, .func (PySem.W.fnOf "_law_life" "_law_life" (defArgs t_q_lifev) (defBody t_q_lifev) (defScope t_q_lifev) .none kV22 dc22 pm22 an22 cd22 ct22), sl22⟩)
    (c22 : PySem.W.codeIn K cd22 "_law_life" = true)
    (k22 : PySem.W.keepIn K (.ref f22) = true)
    {od23 an23 : Option Addr} {sl23 : Array (Option Value)} {oc23 kV23 dc23 pm23 cd23 ct23 : Value}
    (a23_0 : PySem.W.findIn K (.ref C0) "__len__" = some (some (.ref f23)))
    (a23_1 : PySem.W.findIn K (.ref C1) "__len__" = some (some (.ref f23)))
    (i23 : PySem.W.isFn K (.ref f23) = true)
    (j23 : PySem.W.fnIn K f23 = true)
    (l23 : K.lookup f23 = some ⟨oc23, od23, .func (PySem.W.fnOf "__len__" "Rule.__len__" (defArgs t_p_Rule_len) (defBody t_p_Rule_len) (defScope t_p_Rule_len) .none kV23 dc23 pm23 an23 cd23 ct23), sl23⟩)
    (c23 : PySem.W.codeIn K cd23 "Rule.__len__" = true)
    (k23 : PySem.W.keepIn K (.ref f23) = true)
    {od24 an24 : Option Addr} {sl24 : Array (Option Value)} {oc24 kV24 dc24 pm24 cd24 ct24 : Value}
    (a24 : PySem.W.nsIn K mainGlobals "oldest_kept" = some (some (.ref f24)))
    (l24 : K.lookup f24 = some ⟨oc24, od24, .func (PySem.W.fnOf "oldest_kept" "oldest_kept" (defArgs t_p_oldest_kept) (defBody t_p_oldest_kept) (defScope t_p_oldest_kept) .none kV24 dc24 pm24 an24 cd24 ct24), sl24⟩)
    (c24 : PySem.W.codeIn K cd24 "oldest_kept" = true)
    (k24 : PySem.W.keepIn K (.ref f24) = true)
    {od25 an25 : Option Addr} {sl25 : Array (Option Value)} {oc25 kV25 dc25 pm25 cd25 ct25 : Value}
    (a25 : PySem.W.nsIn K mainGlobals "multiples" = some (some (.ref f25)))
    (l25 : K.lookup f25 = some ⟨oc25, od25, .func (PySem.W.fnOf "multiples" "multiples" (defArgs t_p_multiples) (defBody t_p_multiples) (defScope t_p_multiples) .none kV25 dc25 pm25 an25 cd25 ct25), sl25⟩)
    (c25 : PySem.W.codeIn K cd25 "multiples" = true)
    (k25 : PySem.W.keepIn K (.ref f25) = true)
    {od26 an26 : Option Addr} {sl26 : Array (Option Value)} {oc26 kV26 dc26 pm26 cd26 ct26 : Value}
    (a26 : PySem.W.nsIn K mainGlobals "size_of" = some (some (.ref f26)))
    (l26 : K.lookup f26 = some ⟨oc26, od26, .func (PySem.W.fnOf "size_of" "size_of" (defArgs t_p_size_of) (defBody t_p_size_of) (defScope t_p_size_of) .none kV26 dc26 pm26 an26 cd26 ct26), sl26⟩)
    (c26 : PySem.W.codeIn K cd26 "size_of" = true)
    (k26 : PySem.W.keepIn K (.ref f26) = true)
    {od27 an27 : Option Addr} {sl27 : Array (Option Value)} {oc27 kV27 dc27 pm27 cd27 ct27 : Value}
    (a27 : PySem.W.nsIn K mainGlobals "ranked_up_to" = some (some (.ref f27)))
    (l27 : K.lookup f27 = some ⟨oc27, od27, .func (PySem.W.fnOf "ranked_up_to" "ranked_up_to" (defArgs t_p_ranked_up_to) (defBody t_p_ranked_up_to) (defScope t_p_ranked_up_to) .none kV27 dc27 pm27 an27 cd27 ct27), sl27⟩)
    (c27 : PySem.W.codeIn K cd27 "ranked_up_to" = true)
    (k27 : PySem.W.keepIn K (.ref f27) = true)
    {od28 an28 : Option Addr} {sl28 : Array (Option Value)} {oc28 kV28 dc28 pm28 cd28 ct28 : Value}
    (a28 : PySem.W.nsIn K mainGlobals "ranked" = some (some (.ref f28)))
    (l28 : K.lookup f28 = some ⟨oc28, od28, .func (PySem.W.fnOf "ranked" "ranked" (defArgs t_p_ranked) (defBody t_p_ranked) (defScope t_p_ranked) .none kV28 dc28 pm28 an28 cd28 ct28), sl28⟩)
    (c28 : PySem.W.codeIn K cd28 "ranked" = true)
    (k28 : PySem.W.keepIn K (.ref f28) = true)
    {od29 an29 : Option Addr} {sl29 : Array (Option Value)} {oc29 kV29 dc29 pm29 cd29 ct29 : Value}
    (a29 : PySem.W.nsIn K mainGlobals "kept_between" = some (some (.ref f29)))
    (l29 : K.lookup f29 = some ⟨oc29, od29, .func (PySem.W.fnOf "kept_between" "kept_between" (defArgs t_p_kept_between) (defBody t_p_kept_between) (defScope t_p_kept_between) .none kV29 dc29 pm29 an29 cd29 ct29), sl29⟩)
    (c29 : PySem.W.codeIn K cd29 "kept_between" = true)
    (k29 : PySem.W.keepIn K (.ref f29) = true)
    {od30 an30 : Option Addr} {sl30 : Array (Option Value)} {oc30 kV30 dc30 pm30 cd30 ct30 : Value}
    (a30 : PySem.W.nsIn K mainGlobals "kept_count" = some (some (.ref f30)))
    (l30 : K.lookup f30 = some ⟨oc30, od30, .func (PySem.W.fnOf "kept_count" "kept_count" (defArgs t_p_kept_count) (defBody t_p_kept_count) (defScope t_p_kept_count) .none kV30 dc30 pm30 an30 cd30 ct30), sl30⟩)
    (c30 : PySem.W.codeIn K cd30 "kept_count" = true)
    (k30 : PySem.W.keepIn K (.ref f30) = true)
    {od31 an31 : Option Addr} {sl31 : Array (Option Value)} {oc31 kV31 dc31 pm31 cd31 ct31 : Value}
    (a31 : PySem.W.findIn K (.ref C2) "size" = some (some (.ref f31)))
    (i31 : PySem.W.isFn K (.ref f31) = true)
    (l31 : K.lookup f31 = some ⟨oc31, od31, .func (PySem.W.fnOf "size" "Store.size" (defArgs t_p_Store_size) (defBody t_p_Store_size) (defScope t_p_Store_size) .none kV31 dc31 pm31 an31 cd31 ct31), sl31⟩)
    (c31 : PySem.W.codeIn K cd31 "Store.size" = true)
    (k31 : PySem.W.keepIn K (.ref f31) = true)
    {od32 an32 : Option Addr} {sl32 : Array (Option Value)} {oc32 kV32 dc32 pm32 cd32 ct32 : Value}
    (a32 : PySem.W.nsIn K mainGlobals "first_of" = some (some (.ref f32)))
    (l32 : K.lookup f32 = some ⟨oc32, od32, .func (PySem.W.fnOf "first_of" "first_of" (defArgs t_p_first_of) (defBody t_p_first_of) (defScope t_p_first_of) .none kV32 dc32 pm32 an32 cd32 ct32), sl32⟩)
    (c32 : PySem.W.codeIn K cd32 "first_of" = true)
    (k32 : PySem.W.keepIn K (.ref f32) = true)
    {od33 an33 : Option Addr} {sl33 : Array (Option Value)} {oc33 kV33 dc33 pm33 cd33 ct33 : Value}
    (a33 : PySem.W.nsIn K mainGlobals "gap_of" = some (some (.ref f33)))
    (l33 : K.lookup f33 = some ⟨oc33, od33, .func (PySem.W.fnOf "gap_of" "gap_of" (defArgs t_p_gap_of) (defBody t_p_gap_of) (defScope t_p_gap_of) .none kV33 dc33 pm33 an33 cd33 ct33), sl33⟩)
    (c33 : PySem.W.codeIn K cd33 "gap_of" = true)
    (k33 : PySem.W.keepIn K (.ref f33) = true)
    {od34 an34 : Option Addr} {sl34 : Array (Option Value)} {oc34 kV34 dc34 pm34 cd34 ct34 : Value}
    (a34 : PySem.W.nsIn K mainGlobals "kept" = some (some (.ref f34)))
    (l34 : K.lookup f34 = some ⟨oc34, od34, .func (PySem.W.fnOf "kept" "kept" (defArgs t_p_kept) (defBody t_p_kept) (defScope t_p_kept) .none kV34 dc34 pm34 an34 cd34 ct34), sl34⟩)
    (c34 : PySem.W.codeIn K cd34 "kept" = true)
    (k34 : PySem.W.keepIn K (.ref f34) = true)
    {od35 an35 : Option Addr} {sl35 : Array (Option Value)} {oc35 kV35 dc35 pm35 cd35 ct35 : Value}
    (a35 : PySem.W.findIn K (.ref C2) "points" = some (some (.ref f35)))
    (i35 : PySem.W.isFn K (.ref f35) = true)
    (l35 : K.lookup f35 = some ⟨oc35, od35, .func (PySem.W.fnOf "points" "Store.points" (defArgs t_p_Store_points) (defBody t_p_Store_points) (defScope t_p_Store_points) .none kV35 dc35 pm35 an35 cd35 ct35), sl35⟩)
    (c35 : PySem.W.codeIn K cd35 "Store.points" = true)
    (k35 : PySem.W.keepIn K (.ref f35) = true)
    {od36 an36 : Option Addr} {sl36 : Array (Option Value)} {oc36 kV36 dc36 pm36 cd36 ct36 : Value}
    (a36 : PySem.W.nsIn K mainGlobals "_law_is_same" = some (some (.ref f36)))
    (l36 : K.lookup f36 = some ⟨oc36, od36, .func (PySem.W.fnOf "_law_is_same" "_law_is_same" (defArgs t_q_is_same) (defBody t_q_is_same) (defScope t_q_is_same) .none kV36 dc36 pm36 an36 cd36 ct36), sl36⟩)
    (c36 : PySem.W.codeIn K cd36 "_law_is_same" = true)
    (k36 : PySem.W.keepIn K (.ref f36) = true)
    {od37 an37 : Option Addr} {sl37 : Array (Option Value)} {oc37 kV37 dc37 pm37 cd37 ct37 : Value}
    (a37 : PySem.W.nsIn K mainGlobals "_law_lives_on" = some (some (.ref f37)))
    (l37 : K.lookup f37 = some ⟨oc37, od37, .func (PySem.W.fnOf "_law_lives_on" "_law_lives_on" (defArgs t_q_lives_on) (defBody t_q_lives_on) (defScope t_q_lives_on) .none kV37 dc37 pm37 an37 cd37 ct37), sl37⟩)
    (c37 : PySem.W.codeIn K cd37 "_law_lives_on" = true)
    (k37 : PySem.W.keepIn K (.ref f37) = true)
    {od38 an38 : Option Addr} {sl38 : Array (Option Value)} {oc38 kV38 dc38 pm38 cd38 ct38 : Value}
    (a38 : PySem.W.nsIn K mainGlobals "_law_model_of" = some (some (.ref f38)))
    (l38 : K.lookup f38 = some ⟨oc38, od38, .func (PySem.W.fnOf "_law_model_of" "_law_model_of" (defArgs t_q_model_of) (defBody t_q_model_of) (defScope t_q_model_of) .none kV38 dc38 pm38 an38 cd38 ct38), sl38⟩)
    (c38 : PySem.W.codeIn K cd38 "_law_model_of" = true)
    (k38 : PySem.W.keepIn K (.ref f38) = true)
    {od39 an39 : Option Addr} {sl39 : Array (Option Value)} {oc39 kV39 dc39 pm39 ct39 : Value}
    (a39 : PySem.W.nsIn K mainGlobals "_law_right" = some (some (.ref f39)))
    (l39 : K.lookup f39 = some ⟨oc39, od39, .func (PySem.W.fnOf "_law_right" "_law_right" (defArgs t_q_right) (defBody t_q_right) (defScope t_q_right) .none kV39 dc39 pm39 an39 (.ref ca0) ct39), sl39⟩)
    {tvc0 : Value} {tvd0 : Option Addr} {tvs0 : Array (Option Value)} {tvv0 : Array Value}
    (tl0 : K.lookup ca0 = some ⟨tvc0, tvd0, .fields tvv0, tvs0⟩)
    (tv0 : tvv0[11]? = some (.ref P0))
    (tb0 : PySem.W.tabIn K "_law_right" = some (ca0, P0))
    (tn0 : K.lookup P0 = none)
    (c39 : PySem.W.codeIn K (.ref ca0) "_law_right" = true)
    (k39 : PySem.W.keepIn K (.ref f39) = true)
    {od40 an40 : Option Addr} {sl40 : Array (Option Value)} {oc40 kV40 dc40 pm40 cd40 ct40 : Value}
    (a40 : PySem.W.nsIn K mainGlobals "law" = some (some (.ref f40)))
    (l40 : K.lookup f40 = some ⟨oc40, od40, .func (PySem.W.fnOf "law" "law" (defArgs t_q_law) (defBody t_q_law) (defScope t_q_law) .none kV40 dc40 pm40 an40 cd40 ct40), sl40⟩)
    (c40 : PySem.W.codeIn K cd40 "law" = true)
    (k40 : PySem.W.keepIn K (.ref f40) = true)
    {od41 an41 : Option Addr} {sl41 : Array (Option Value)} {oc41 kV41 dc41 pm41 cd41 ct41 : Value}
    {rs41 : List Value}
    (a41_0 : PySem.W.findIn K (.ref C0) "lives" = some (some (.ref p41)))
    (a41_1 : PySem.W.findIn K (.ref C1) "lives" = some (some (.ref p41)))
    (s41 : PySem.W.specialIn K (.ref p41) "__get__" = some (some (.builtin "property.__get__")))
    (t41 : PySem.W.takesIn K (.ref p41) = some true)
    (r41 : PySem.W.recIn K p41 "property" = some (.ref f41 :: rs41))
    (l41 : K.lookup f41 = some ⟨oc41, od41, .func (PySem.W.fnOf "lives" "Rule.lives" (defArgs t_p_Rule_lives) (defBody t_p_Rule_lives) (defScope t_p_Rule_lives) .none kV41 dc41 pm41 an41 cd41 ct41), sl41⟩)
    (c41 : PySem.W.codeIn K cd41 "Rule.lives" = true)
    (k41 : PySem.W.keepIn K (.ref f41) = true)
    (xa0 : PySem.W.nsIn K mainGlobals "BadTicks" = some (some (.ref E0)))
    (xa1 : PySem.W.nsIn K mainGlobals "KeepError" = some (some (.ref E1)))
    (xa2 : PySem.W.nsIn K mainGlobals "BadAge" = some (some (.ref E2)))
    (xa3 : PySem.W.nsIn K mainGlobals "NotKept" = some (some (.ref E3)))
    (xa4 : PySem.W.nsIn K mainGlobals "OtherTick" = some (some (.ref E4)))
    (xa5 : PySem.W.nsIn K mainGlobals "TooMany" = some (some (.ref E5)))
    (xa6 : PySem.W.nsIn K mainGlobals "BadLives" = some (some (.ref E6)))
    (xsu : PySem.W.nsIn K mainGlobals "super" = some none)
    (xtp : PySem.W.nsIn K PySem.cStatics "thirdparty.any" = some none)
    {oc_x0 cl_x0 cx_x0 dc_x0 pm_x0 ct_x0 kV_x0 : Value} {od_x0 cd_x0 ce_x0 an_x0 dd_x0 : Option Addr} {sl_x0 sm_x0 sn_x0 : Array (Option Value)} {vs_x0 : Array Value} {tf_x0 : Tok} {fl_x0 nm_x0 qn_x0 : Str} {bs_x0 bm_x0 su_x0 : List Value} {sb_x0 : List Str} {ab_x0 : Bool} {co_x0 : Option Bool} {k0_x0 k1_x0 k2_x0 k3_x0 k5_x0 : Option Value}
    (xi0 : PySem.W.findIn K (.ref E0) "__init__" = some (some (.ref xf0)))
    (xl0 : K.lookup xf0 = some ⟨oc_x0, od_x0, .func (PySem.W.fnX "__init__" "BadTicks.__init__" (defArgs t_x0) (defBody t_x0) (defScope t_x0) [("__class__", xcc0)] .none kV_x0 dc_x0 pm_x0 an_x0 (.ref xca0) ct_x0), sl_x0⟩)
    (xm0 : K.lookup xca0 = some ⟨cx_x0, ce_x0, .fields vs_x0, sn_x0⟩)
    (xv0 : vs_x0[2]? = some (.str fl_x0 tf_x0))
    (xn0 : K.lookup xcc0 = some ⟨cl_x0, cd_x0, .cell (some (.ref E0)), sm_x0⟩)
    (xo0 : (PySem.W.clsIn K E0).isSome = true)
    (xc0 : PySem.W.codeIn K (.ref xca0) "BadTicks.__init__" = true)
    (xk0 : K.lookup E0 = some (PySem.excClassObj nm_x0 qn_x0 E0 xN0 bs_x0 bm_x0 true sb_x0 su_x0 ab_x0 co_x0 dd_x0 k0_x0 k1_x0 k2_x0 k3_x0 k5_x0 "ValueError.__new__"))
    (xr0 : PySem.HandSPX.refsVE bm_x0 = true)
    (xsa0 : PySem.W.findIn K (.ref E0) "__setattr__" = some (some (.builtin "object.__setattr__")))
    (xex0 : PySem.W.subIn K (.ref E0) (.type "BaseException") = some true)
    (xty0 : PySem.W.typeIn K (.ref E0) = some (.type "type"))
    (xke0 : PySem.W.keepIn K (.ref E0) = true)
    (xse0 : PySem.W.subIn K (.ref E0) (.ref E0) = some true)
    (xsv0 : PySem.W.subIn K (.ref E0) (.type "ValueError") = some true)
    (xq0 : PySem.W.ks_superIn K E0 E0 "__init__" = some (some (.builtin "ValueError.__init__")))
    (xno0 : PySem.W.findIn K (.ref E0) "value" = some none)
    (xti0 : PySem.W.typeIn K (.ref xf0) = some (.type "function"))
    (xga0 : PySem.W.findIn K (.ref E0) "__getattribute__" = some (some (.builtin "BaseException.__getattribute__")))
    (xgg0 : PySem.W.findIn K (.ref E0) "__getattr__" = some none)
    (xhd0 : PySem.W.hasDictIn K E0 = true)
    (xha0 : PySem.W.findIn K (.ref E0) "__class__" = some (some (.builtin "object.__class__")))
    (xsp0 : PySem.W.specialIn K (.builtin "object.__class__") "__get__" = some (some (.builtin "getset_descriptor.__get__")))
    (xtk0 : PySem.W.takesIn K (.builtin "object.__class__") = some true)
    (xmo0 : PySem.W.mroIn K E0 (.type "object") = some true)
    (xfl0 : SupP l.prog fl_x0)
    (xx0 : PySem.W.exmOne K (.ref E0) (.ref E1) = some true)
    (xy0_0 : PySem.W.kitOne K (.ref E0) (.ref E0) = some true)
    (xz0 : PySem.W.kitOne K (.type "NoneType") (.ref E0) = some false)
    (xy2_0 : PySem.W.kitOne K (.ref E0) (.ref E2) = some false)
    (xz2 : PySem.W.kitOne K (.type "NoneType") (.ref E2) = some false)
    (xy3_0 : PySem.W.kitOne K (.ref E0) (.ref E3) = some false)
    (xz3 : PySem.W.kitOne K (.type "NoneType") (.ref E3) = some false)
    (xy4_0 : PySem.W.kitOne K (.ref E0) (.ref E4) = some false)
    (xz4 : PySem.W.kitOne K (.type "NoneType") (.ref E4) = some false)
    (xy5_0 : PySem.W.kitOne K (.ref E0) (.ref E5) = some false)
    (xz5 : PySem.W.kitOne K (.type "NoneType") (.ref E5) = some false)
    (xy6_0 : PySem.W.kitOne K (.ref E0) (.ref E6) = some false)
    (xz6 : PySem.W.kitOne K (.type "NoneType") (.ref E6) = some false)
    (xyV_0 : PySem.W.kitOne K (.ref E0) (.type "ValueError") = some true)
    (xzV : PySem.W.kitOne K (.type "NoneType") (.type "ValueError") = some false)
    {u_MOST_COUNT : Tok}
    (x_MOST_COUNT : PySem.W.nsIn K mainGlobals "MOST_COUNT" = some (some (.int 61 u_MOST_COUNT)))
    {u_MOST_LIFE : Tok}
    (x_MOST_LIFE : PySem.W.nsIn K mainGlobals "MOST_LIFE" = some (some (.int 1000000000000000000 u_MOST_LIFE)))
    {u_MOST_POINTS : Tok}
    (x_MOST_POINTS : PySem.W.nsIn K mainGlobals "MOST_POINTS" = some (some (.int 2000 u_MOST_POINTS)))
    {u_MOST_TICKS : Tok}
    (x_MOST_TICKS : PySem.W.nsIn K mainGlobals "MOST_TICKS" = some (some (.int 1000000000000000000 u_MOST_TICKS)))
    {u_PAIR : Tok}
    (x_PAIR : PySem.W.nsIn K mainGlobals "PAIR" = some (some (.int 2 u_PAIR)))
    (z_ValueError : PySem.W.nsIn K mainGlobals "ValueError" = some none)
    (z_abs : PySem.W.nsIn K mainGlobals "abs" = some none)
    (z_all : PySem.W.nsIn K mainGlobals "all" = some none)
    (z_bool : PySem.W.nsIn K mainGlobals "bool" = some none)
    (z_int : PySem.W.nsIn K mainGlobals "int" = some none)
    (z_isinstance : PySem.W.nsIn K mainGlobals "isinstance" = some none)
    (z_len : PySem.W.nsIn K mainGlobals "len" = some none)
    (z_max : PySem.W.nsIn K mainGlobals "max" = some none)
    (z_min : PySem.W.nsIn K mainGlobals "min" = some none)
    (z_range : PySem.W.nsIn K mainGlobals "range" = some none)
    (z_repr : PySem.W.nsIn K mainGlobals "repr" = some none)
    (z_tuple : PySem.W.nsIn K mainGlobals "tuple" = some none)
    (z_zip : PySem.W.nsIn K mainGlobals "zip" = some none)
    : ∃ (W : Wd) (fd : FuncData) (cs : List (Addr × Addr)), W.K.In h ∧ (∀ (s : Shared) (v : Value), BindsTo s fd ⟨[v], []⟩ [("_law_script", v)]) ∧ cs.length = 1 ∧ (∀ i x p, (["_law_right"] : List Str)[i]? = some x → cs[i]? = some p → PySem.W.tabIn W.K x = some p ∧ W.tb i = p.2) ∧ (cs.map (·.2)).Nodup ∧ (∀ p ∈ cs, W.K.lookup p.2 = none) ∧ ∀ base : Heap, W.K.In base → base.Ns mainGlobals mg → (∀ p ∈ cs, LamX.TabB base mg p.1 p.2) → FnG l.prog w W.K mg base CX0 23 fa fd ["_law_script"] (spEv W 1 q_law) := by
  have e := hfa.symm.trans (PySem.W.mg_of X G a40)
  cases e
  have F0 := fun_mk (st := t_q_pot_of) l0 c0 k0
  have b0 := F0.binds (ps := ["_law_script", "_law_k"]) fun _ _ _ _ _ _ us hl => match us, hl with | [_, _], _ => rfl
  have F1 := fun_mk (st := t_q_takevv) l1 c1 k1
  have b1 := F1.binds (ps := ["_law_pot", "_law_upto"]) fun _ _ _ _ _ _ us hl => match us, hl with | [_, _], _ => rfl
  have F2 := fun_mk (st := t_q_ofv) l2 c2 k2
  have b2 := F2.binds (ps := ["_law_pot", "_law_some"]) fun _ _ _ _ _ _ us hl => match us, hl with | [_, _], _ => rfl
  have F3 := fun_mk (st := t_q_drawn_lives) l3 c3 k3
  have b3 := F3.binds (ps := ["_law_pot", "_law_limit"]) fun _ _ _ _ _ _ us hl => match us, hl with | [_, _], _ => rfl
  have F4 : FunD K "is_integer" "is_integer" (defArgs t_p_is_integer) (defBody t_p_is_integer) (defScope t_p_is_integer) [V.non] [] f4 _ := ⟨⟨_, _, _, _, _, _, _, _, _, _, rfl, l4, c4, .inr ⟨by simp, d4, _, [Value.none], _, rfl, t4, rfl, .cons rfl .nil⟩, .inl rfl⟩, k4⟩
  have b4 := F4.binds1 (ps := ["value", "high"]) 2 1 (by simp) (by decide) fun _ _ _ _ _ _ _ us its h1 h2 => match us, its, h1, h2 with | [_, _], [_], _, _ => ⟨_, rfl, rfl⟩
  have e4 := F4.binds1 (ps := ["value", "high"]) 1 0 (by simp) (by decide) fun _ _ _ _ _ _ _ us its h1 h2 => match us, its, h1, h2 with | [_], [_], _, _ => ⟨_, rfl, rfl⟩
  have F5 := fun_mk (st := t_p_Rule_are_lives) l5 c5 k5
  have b5 := F5.binds (ps := ["value"]) fun _ _ _ _ _ _ us hl => match us, hl with | [_], _ => rfl
  have F6 := fun_mk (st := t_p_shortest) l6 c6 k6
  have b6 := F6.binds (ps := ["lives"]) fun _ _ _ _ _ _ us hl => match us, hl with | [_], _ => rfl
  have F7 := fun_mk (st := t_p_Rule_init) l7 c7 k7
  have F8 := fun_mk (st := t_p_Rule_of) l8 c8 k8
  have b8 := F8.binds (ps := ["cls", "lives"]) fun _ _ _ _ _ _ us hl => match us, hl with | [_, _], _ => rfl
  have F9 := fun_mk (st := t_q_oddv) l9 c9 k9
  have b9 := F9.binds (ps := ["_law_pot"]) fun _ _ _ _ _ _ us hl => match us, hl with | [_], _ => rfl
  have F10 := fun_mk (st := t_q_is_integer) l10 c10 k10
  have b10 := F10.binds (ps := ["_law_value", "_law_limit"]) fun _ _ _ _ _ _ us hl => match us, hl with | [_, _], _ => rfl
  have F11 := fun_mk (st := t_q_refusal) l11 c11 k11
  have b11 := F11.binds (ps := ["_law_ask"]) fun _ _ _ _ _ _ us hl => match us, hl with | [_], _ => rfl
  have F12 := fun_mk (st := t_p_is_number) l12 c12 k12
  have b12 := F12.binds (ps := ["value", "most"]) fun _ _ _ _ _ _ us hl => match us, hl with | [_, _], _ => rfl
  have F13 : FunD K "__init__" "Store.__init__" (defArgs t_p_Store_initv) (defBody t_p_Store_initv) (defScope t_p_Store_initv) [] [("tick", V.int 0)] f13 _ := ⟨⟨_, _, _, _, _, _, _, _, _, _, rfl, l13, c13, .inl ⟨rfl, rfl⟩, .inr ⟨d13, rfl, fun q hq => by rw [List.mem_singleton.mp hq]; exact ⟨_, n13, ⟨_, rfl⟩⟩⟩⟩, k13⟩
  have bd13 := F13.binds0 (ps := ["self", "rule", "tick"]) 2 (by simp) (by decide) fun _ _ _ _ _ _ us ks h1 h2 => match us, ks, h1, h2 with | [_, _], [_], _, _ => ⟨_, _, _, _, _, _, rfl, rfl, rfl⟩
  have bk13 := F13.kbinds0 (ps := ["self", "rule", "tick"]) 2 ["tick"] [] (fun us mv ws => us ++ (mv ++ ws)) (by simp) (fun _ h => nomatch h) (fun r1 r2 r3 => r1.append (r2.append r3)) fun _ _ _ _ _ _ us mv ws h1 h2 h3 => match us, mv, ws, h1, h2, h3 with | [_, _], [], [_], _, _, _ => rfl
  have F14 := fun_mk (st := t_p_Store_tick) l14 c14 k14
  have b14 := F14.binds (ps := ["self"]) fun _ _ _ _ _ _ us hl => match us, hl with | [_], _ => rfl
  have F15 := fun_mk (st := t_p_Rule_eq) l15 c15 k15
  have b15 := F15.binds (ps := ["self", "other"]) fun _ _ _ _ _ _ us hl => match us, hl with | [_, _], _ => rfl
  have F16 := fun_mk (st := t_p_Store_rule) l16 c16 k16
  have b16 := F16.binds (ps := ["self"]) fun _ _ _ _ _ _ us hl => match us, hl with | [_], _ => rfl
  have F17 := fun_mk (st := t_p_is_at_least) l17 c17 k17
  have b17 := F17.binds (ps := ["life", "other"]) fun _ _ _ _ _ _ us hl => match us, hl with | [_, _], _ => rfl
  have F18 := fun_mk (st := t_p_life_of) l18 c18 k18
  have b18 := F18.binds (ps := ["lives", "index"]) fun _ _ _ _ _ _ us hl => match us, hl with | [_, _], _ => rfl
  have F19 := fun_mk (st := t_p_rank) l19 c19 k19
  have b19 := F19.binds (ps := ["point"]) fun _ _ _ _ _ _ us hl => match us, hl with | [_], _ => rfl
  have F20 := fun_mk (st := t_p_Rule_contains) l20 c20 k20
  have b20 := F20.binds (ps := ["self", "value"]) fun _ _ _ _ _ _ us hl => match us, hl with | [_, _], _ => rfl
  have F21 := fun_mk (st := t_p_Store_contains) l21 c21 k21
  have b21 := F21.binds (ps := ["self", "value"]) fun _ _ _ _ _ _ us hl => match us, hl with | [_, _], _ => rfl
  have F22 := fun_mk (st := t_q_lifev) l22 c22 k22
  have b22 := F22.binds (ps := ["_law_lives", "_law_point"]) fun _ _ _ _ _ _ us hl => match us, hl with | [_, _], _ => rfl
  have F23 := fun_mk (st := t_p_Rule_len) l23 c23 k23
  have b23 := F23.binds (ps := ["self"]) fun _ _ _ _ _ _ us hl => match us, hl with | [_], _ => rfl
  have F24 := fun_mk (st := t_p_oldest_kept) l24 c24 k24
  have b24 := F24.binds (ps := ["rule", "tick", "index"]) fun _ _ _ _ _ _ us hl => match us, hl with | [_, _, _], _ => rfl
  have F25 := fun_mk (st := t_p_multiples) l25 c25 k25
  have b25 := F25.binds (ps := ["low", "high", "size"]) fun _ _ _ _ _ _ us hl => match us, hl with | [_, _, _], _ => rfl
  have F26 := fun_mk (st := t_p_size_of) l26 c26 k26
  have b26 := F26.binds (ps := ["rank"]) fun _ _ _ _ _ _ us hl => match us, hl with | [_], _ => rfl
  have F27 := fun_mk (st := t_p_ranked_up_to) l27 c27 k27
  have b27 := F27.binds (ps := ["high", "rank"]) fun _ _ _ _ _ _ us hl => match us, hl with | [_, _], _ => rfl
  have F28 := fun_mk (st := t_p_ranked) l28 c28 k28
  have b28 := F28.binds (ps := ["low", "high", "rank"]) fun _ _ _ _ _ _ us hl => match us, hl with | [_, _, _], _ => rfl
  have F29 := fun_mk (st := t_p_kept_between) l29 c29 k29
  have b29 := F29.binds (ps := ["rule", "tick", "low", "high"]) fun _ _ _ _ _ _ us hl => match us, hl with | [_, _, _, _], _ => rfl
  have F30 := fun_mk (st := t_p_kept_count) l30 c30 k30
  have b30 := F30.binds (ps := ["rule", "tick"]) fun _ _ _ _ _ _ us hl => match us, hl with | [_, _], _ => rfl
  have F31 := fun_mk (st := t_p_Store_size) l31 c31 k31
  have b31 := F31.binds (ps := ["self"]) fun _ _ _ _ _ _ us hl => match us, hl with | [_], _ => rfl
  have F32 := fun_mk (st := t_p_first_of) l32 c32 k32
  have b32 := F32.binds (ps := ["rule", "tick", "index"]) fun _ _ _ _ _ _ us hl => match us, hl with | [_, _, _], _ => rfl
  have F33 := fun_mk (st := t_p_gap_of) l33 c33 k33
  have b33 := F33.binds (ps := ["rule", "index"]) fun _ _ _ _ _ _ us hl => match us, hl with | [_, _], _ => rfl
  have F34 := fun_mk (st := t_p_kept) l34 c34 k34
  have b34 := F34.binds (ps := ["rule", "tick"]) fun _ _ _ _ _ _ us hl => match us, hl with | [_, _], _ => rfl
  have F35 := fun_mk (st := t_p_Store_points) l35 c35 k35
  have b35 := F35.binds (ps := ["self"]) fun _ _ _ _ _ _ us hl => match us, hl with | [_], _ => rfl
  have F36 := fun_mk (st := t_q_is_same) l36 c36 k36
  have b36 := F36.binds (ps := ["_law_store", "_law_model"]) fun _ _ _ _ _ _ us hl => match us, hl with | [_, _], _ => rfl
  have F37 := fun_mk (st := t_q_lives_on) l37 c37 k37
  have b37 := F37.binds (ps := ["_law_lives", "_law_point", "_law_now"]) fun _ _ _ _ _ _ us hl => match us, hl with | [_, _, _], _ => rfl
  have F38 := fun_mk (st := t_q_model_of) l38 c38 k38
  have b38 := F38.binds (ps := ["_law_lives", "_law_now"]) fun _ _ _ _ _ _ us hl => match us, hl with | [_, _], _ => rfl
  have F39 := fun_mk (st := t_q_right) l39 c39 k39
  have b39 := F39.binds (ps := ["_law_pot"]) fun _ _ _ _ _ _ us hl => match us, hl with | [_], _ => rfl
  have F40 := fun_mk (st := t_q_law) l40 c40 k40
  have b40 := F40.binds (ps := ["_law_script"]) fun _ _ _ _ _ _ us hl => match us, hl with | [_], _ => rfl
  have F41 := fun_mk (st := t_p_Rule_lives) l41 c41 k41
  have b41 := F41.binds (ps := ["self"]) fun _ _ _ _ _ _ us hl => match us, hl with | [_], _ => rfl
  obtain ⟨xcd0, xhc0⟩ := Option.isSome_iff_exists.mp xo0
  let W0 : Wd := ⟨K, fun c => match c with | 0 => C0 | 1 => C1 | _ => C2, fun c => match c with | 2 => "held_state" | _ => "held_lives", fun c => match c with | 0 => E0 | 1 => E1 | 2 => E2 | 3 => E3 | 4 => E4 | 5 => E5 | _ => E6, fun c => match c with | _ => P0, fun c => match c with | _ => (envOfC "_law_right" (defScope t_q_right) 0 0 .none).qual ++ "<lambda>"⟩
  let T : Txt l.prog W0 mg := {
    g0 := PySem.W.mg_of X G aC0
    c0 := ⟨⟨pg0, hd0, po0, sa0⟩, rd0, ga0⟩
    g1 := PySem.W.mg_of X G aC1
    c1 := ⟨⟨pg1, hd1, po1, sa1⟩, rd1, ga1⟩
    g2 := PySem.W.mg_of X G aC2
    c2 := ⟨⟨pg2, hd2, po2, sa2⟩, rd2, ga2⟩
    ownc := ⟨fun c hc => match c, hc with | 0, _ => ow0 | 1, _ => ow1, ow2, ow3⟩
    is0 := ⟨fun c hc => match c, hc with | 0, _ => ⟨pg0, hd0, po0, sa0⟩ | 1, _ => ⟨pg1, hd1, po1, sa1⟩, fun c hc => match c, hc with | 0, _ => ia0_0 | 1, _ => ia0_1, ib0, ic0, fun c hc => match c, hc with | 0, _ => id0_0 | 1, _ => id0_1, fun c hc => match c, hc with | 0, _ => ie0_0 | 1, _ => ie0_1, fun T hT => by
      rcases List.mem_cons.mp hT with rfl | hT
      · exact if0_NoneType
      rcases List.mem_cons.mp hT with rfl | hT
      · exact if0_bool
      rcases List.mem_cons.mp hT with rfl | hT
      · exact if0_int
      rcases List.mem_cons.mp hT with rfl | hT
      · exact if0_str
      rcases List.mem_cons.mp hT with rfl | hT
      · exact if0_tuple
      rcases List.mem_cons.mp hT with rfl | hT
      · exact if0_list
      rcases List.mem_cons.mp hT with rfl | hT
      · exact if0_dict
      cases hT⟩
    q_pot_of := ⟨_, _, F0, PySem.W.mg_of X G a0, b0⟩
    q_takevv := ⟨_, _, F1, PySem.W.mg_of X G a1, b1⟩
    q_ofv := ⟨_, _, F2, PySem.W.mg_of X G a2, b2⟩
    q_drawn_lives := ⟨_, _, F3, PySem.W.mg_of X G a3, b3⟩
    p_is_integer := ⟨_, _, F4, PySem.W.mg_of X G a4, b4, e4⟩
    p_Rule_are_lives := ⟨_, _, F5⟩
    p_p_Rule_are_lives := p5
    r_p_Rule_are_lives := ⟨a5, ⟨_, r5⟩, k5⟩
    b_p_Rule_are_lives := b5
    p_shortest := ⟨_, _, F6, PySem.W.mg_of X G a6, b6⟩
    p_Rule_init := ⟨_, _, F7⟩
    m_p_Rule_init := ⟨mk0, a7, i7, kc0⟩
    h_p_Rule_init := StX.bind_star1 (B := fun us => bindArgs _ ⟨us, []⟩) (fun _ => rfl) (fun _ _ _ => rfl)
    p_Rule_of := ⟨_, _, F8⟩
    p_p_Rule_of := p8
    r_p_Rule_of := ⟨a8, ⟨_, r8⟩, i8⟩
    b_p_Rule_of := b8
    q_oddv := ⟨_, _, F9, PySem.W.mg_of X G a9, b9⟩
    q_is_integer := ⟨_, _, F10, PySem.W.mg_of X G a10, b10⟩
    q_refusal := ⟨_, _, F11, PySem.W.mg_of X G a11, b11⟩
    p_is_number := ⟨_, _, F12, PySem.W.mg_of X G a12, b12⟩
    p_Store_initv := ⟨_, _, F13⟩
    m_p_Store_initv := ⟨mk2, a13, i13, kc2⟩
    bd_p_Store_initv := bd13
    bk_p_Store_initv := let ⟨_, h⟩ := bk13; ⟨_, h⟩
    p_Store_tick := ⟨_, _, F14⟩
    b_p_Store_tick := b14
    pp_p_Store_tick := p14
    q_p_Store_tick := ⟨a14, s14, t14, ⟨_, r14⟩⟩
    om_p_Rule_eq := ⟨fun c hc => match c, hc with | 0, _ => a15_0 | 1, _ => a15_1, i15, j15⟩
    oe_p_Rule_eq := ⟨⟨fun c hc => match c, hc with | 0, _ => a15_0 | 1, _ => a15_1, i15, j15⟩, fun c hc => match c, hc with | 0, _ => r15_0 | 1, _ => r15_1, fun c hc => match c, hc with | 0, _ => h15_0 | 1, _ => h15_1⟩
    p_Rule_eq := ⟨_, _, F15⟩
    b_p_Rule_eq := b15
    p_Store_rule := ⟨_, _, F16⟩
    b_p_Store_rule := b16
    pp_p_Store_rule := p16
    q_p_Store_rule := ⟨a16, s16, t16, ⟨_, r16⟩⟩
    p_is_at_least := ⟨_, _, F17, PySem.W.mg_of X G a17, b17⟩
    p_life_of := ⟨_, _, F18, PySem.W.mg_of X G a18, b18⟩
    p_rank := ⟨_, _, F19, PySem.W.mg_of X G a19, b19⟩
    om_p_Rule_contains := ⟨fun c hc => match c, hc with | 0, _ => a20_0 | 1, _ => a20_1, i20, j20⟩
    p_Rule_contains := ⟨_, _, F20⟩
    b_p_Rule_contains := b20
    p_Store_contains := ⟨_, _, F21⟩
    b_p_Store_contains := b21
    ms_p_Store_contains := ⟨a21, i21, k21⟩
    ow_p_Store_contains := ⟨a21, i21, j21⟩
    q_lifev := ⟨_, _, F22, PySem.W.mg_of X G a22, b22⟩
    om_p_Rule_len := ⟨fun c hc => match c, hc with | 0, _ => a23_0 | 1, _ => a23_1, i23, j23⟩
    p_Rule_len := ⟨_, _, F23⟩
    b_p_Rule_len := b23
    p_oldest_kept := ⟨_, _, F24, PySem.W.mg_of X G a24, b24⟩
    p_multiples := ⟨_, _, F25, PySem.W.mg_of X G a25, b25⟩
    p_size_of := ⟨_, _, F26, PySem.W.mg_of X G a26, b26⟩
    p_ranked_up_to := ⟨_, _, F27, PySem.W.mg_of X G a27, b27⟩
    p_ranked := ⟨_, _, F28, PySem.W.mg_of X G a28, b28⟩
    p_kept_between := ⟨_, _, F29, PySem.W.mg_of X G a29, b29⟩
    p_kept_count := ⟨_, _, F30, PySem.W.mg_of X G a30, b30⟩
    p_Store_size := ⟨_, _, F31⟩
    b_p_Store_size := b31
    ms_p_Store_size := ⟨a31, i31, k31⟩
    p_first_of := ⟨_, _, F32, PySem.W.mg_of X G a32, b32⟩
    p_gap_of := ⟨_, _, F33, PySem.W.mg_of X G a33, b33⟩
    p_kept := ⟨_, _, F34, PySem.W.mg_of X G a34, b34⟩
    p_Store_points := ⟨_, _, F35⟩
    b_p_Store_points := b35
    ms_p_Store_points := ⟨a35, i35, k35⟩
    q_is_same := ⟨_, _, F36, PySem.W.mg_of X G a36, b36⟩
    q_lives_on := ⟨_, _, F37, PySem.W.mg_of X G a37, b37⟩
    q_model_of := ⟨_, _, F38, PySem.W.mg_of X G a38, b38⟩
    cd0 := ca0
    hcd0 := rfl
    tq0 := rfl
    q_right := ⟨_, _, F39, PySem.W.mg_of X G a39, b39⟩
    q_law := ⟨_, _, F40, PySem.W.mg_of X G a40, b40⟩
    p_Rule_lives := ⟨_, _, F41⟩
    q0_p_Rule_lives := ⟨p41, a41_0, s41, t41, ⟨_, r41⟩⟩
    q1_p_Rule_lives := ⟨p41, a41_1, s41, t41, ⟨_, r41⟩⟩
    b_p_Rule_lives := b41
    gx0 := PySem.W.mg_of X G xa0
    gx1 := PySem.W.mg_of X G xa1
    gx2 := PySem.W.mg_of X G xa2
    gx3 := PySem.W.mg_of X G xa3
    gx4 := PySem.W.mg_of X G xa4
    gx5 := PySem.W.mg_of X G xa5
    gx6 := PySem.W.mg_of X G xa6
    x0 := ⟨xf0, xcc0, xca0, fl_x0, _, ⟨_, _, _, _, _, _, _, _, _, _, _, _, _, _, _, _, _, _, rfl, xl0, xm0, xv0, xn0, xhc0⟩, xc0, ⟨⟨_, _, _, _, _, _, _, _, _, _, _, _, _, _, _, xk0, xr0⟩, xsa0, xex0, xty0, xke0⟩, xse0, xsv0, PySem.W.mg_none_of X G xsu, xq0, xtp, xno0, xi0, xti0, fun _ _ => by exact rfl⟩
    xs0 := xfl0
    exk := fun c hc => match c, hc with | 0, _ => ⟨xo0, xga0, xgg0, xex0, xhd0, xha0, xsp0, xtk0, xmo0, xno0⟩
    hex := fun c hc => match c, hc with | 0, _ => xx0
    isx0 := fun c hc => match c, hc with | 0, _ => xy0_0
    isxn0 := xz0
    isx2 := fun c hc => match c, hc with | 0, _ => xy2_0
    isxn2 := xz2
    isx3 := fun c hc => match c, hc with | 0, _ => xy3_0
    isxn3 := xz3
    isx4 := fun c hc => match c, hc with | 0, _ => xy4_0
    isxn4 := xz4
    isx5 := fun c hc => match c, hc with | 0, _ => xy5_0
    isxn5 := xz5
    isx6 := fun c hc => match c, hc with | 0, _ => xy6_0
    isxn6 := xz6
    isV := fun c hc => match c, hc with | 0, _ => xyV_0
    isVn := xzV
    k_MOST_COUNT := ⟨_, PySem.W.mg_of X G x_MOST_COUNT⟩
    k_MOST_LIFE := ⟨_, PySem.W.mg_of X G x_MOST_LIFE⟩
    k_MOST_POINTS := ⟨_, PySem.W.mg_of X G x_MOST_POINTS⟩
    k_MOST_TICKS := ⟨_, PySem.W.mg_of X G x_MOST_TICKS⟩
    k_PAIR := ⟨_, PySem.W.mg_of X G x_PAIR⟩
    n_ValueError := PySem.W.mg_none_of X G z_ValueError
    n_abs := PySem.W.mg_none_of X G z_abs
    n_all := PySem.W.mg_none_of X G z_all
    n_bool := PySem.W.mg_none_of X G z_bool
    n_int := PySem.W.mg_none_of X G z_int
    n_isinstance := PySem.W.mg_none_of X G z_isinstance
    n_len := PySem.W.mg_none_of X G z_len
    n_max := PySem.W.mg_none_of X G z_max
    n_min := PySem.W.mg_none_of X G z_min
    n_range := PySem.W.mg_none_of X G z_range
    n_repr := PySem.W.mg_none_of X G z_repr
    n_tuple := PySem.W.mg_none_of X G z_tuple
    n_zip := PySem.W.mg_none_of X G z_zip
    so := ⟨⟨pg2, hd2, po2, sa2⟩, nh2, rfl⟩
    fld := ⟨fun c hc => match c, hc with | 0, _ => ⟨pg0, hd0, po0, sa0⟩ | 1, _ => ⟨pg1, hd1, po1, sa1⟩, fun c hc => match c, hc with | 0, _ => nh0 | 1, _ => nh1, fun c hc => match c, hc with | 0, _ => rfl | 1, _ => rfl⟩
  }
  have nl : ∀ p ∈ ([(ca0, P0)] : List (Addr × Addr)), K.lookup p.2 = none := fun p hp => by
    simp only [List.mem_cons, List.not_mem_nil, or_false] at hp
    rcases hp with rfl
    · exact tn0
  exact ⟨W0, _, [(ca0, P0)], X, fun s v => .of_eq rfl, rfl, fun i x p h1 h2 => (match i, h1, h2 with | 0, h1, h2 => by cases h1; cases h2; exact ⟨tb0, rfl⟩ | (_ + 1), h1, _ => by simp at h1), by simp, nl, fun base _ _ hT => ok_q_law (W := W0) T ⟨hT (ca0, P0) (by simp)⟩⟩

end LW
open PySem PySem.W PyProof.Rows
set_option maxHeartbeats 0 in
theorem PySem.Challenge.cw_rulerkeep_k27_stores_made_or_refused_holds : PySem.Challenge.rw_rulerkeep_k27_stores_made_or_refused.Holds := by
  w_on; o_law; k_head; (case hw => w_witness2)
  k_fill
  refine Ev.law_endT (l := PySem.Challenge.rw_rulerkeep_k27_stores_made_or_refused) (n := 63) (k := 23) (x := "_law_script") (CX := L2.CX0) (fs := LW.q_law) ["_law_right"] rfl (by decide) rfl ⟨rfl, by decide, by decide⟩ (by kernel_rfl) ?F LW.law_true (fun _ _ _ _ h => h)
  case F =>
    intro w mg fa h Y G hmg
    refine' LW.all_mk (PySem.W.km_in_of Y) G hmg ?aC0 ?pg0 ?hd0 ?po0 ?sa0 ?rd0 ?ga0 ?nh0 ?mk0 ?kc0 ?aC1 ?pg1 ?hd1 ?po1 ?sa1 ?rd1 ?ga1 ?nh1 ?aC2 ?pg2 ?hd2 ?po2 ?sa2 ?rd2 ?ga2 ?nh2 ?mk2 ?kc2 ?ow0 ?ow1 ?ow2 ?ow3 ?ia0_0 ?ia0_1 ?ib0 ?ic0 ?id0_0 ?id0_1 ?ie0_0 ?ie0_1 ?if0_NoneType ?if0_bool ?if0_int ?if0_str ?if0_tuple ?if0_list ?if0_dict ?a0 ?l0 ?c0 ?k0 ?a1 ?l1 ?c1 ?k1 ?a2 ?l2 ?c2 ?k2 ?a3 ?l3 ?c3 ?k3 ?a4 ?l4 ?t4 ?c4 ?k4 ?a5 ?r5 ?l5 ?c5 ?k5 ?a6 ?l6 ?c6 ?k6 ?a7 ?i7 ?l7 ?c7 ?k7 ?a8 ?r8 ?i8 ?l8 ?c8 ?k8 ?a9 ?l9 ?c9 ?k9 ?a10 ?l10 ?c10 ?k10 ?a11 ?l11 ?c11 ?k11 ?a12 ?l12 ?c12 ?k12 ?a13 ?i13 ?l13 ?n13 ?c13 ?k13 ?a14 ?s14 ?t14 ?r14 ?l14 ?c14 ?k14 ?a15_0 ?a15_1 ?i15 ?j15 ?r15_0 ?r15_1 ?h15_0 ?h15_1 ?l15 ?c15 ?k15 ?a16 ?s16 ?t16 ?r16 ?l16 ?c16 ?k16 ?a17 ?l17 ?c17 ?k17 ?a18 ?l18 ?c18 ?k18 ?a19 ?l19 ?c19 ?k19 ?a20_0 ?a20_1 ?i20 ?j20 ?l20 ?c20 ?k20 ?a21 ?i21 ?j21 ?l21 ?c21 ?k21 ?a22 ?l22 ?c22 ?k22 ?a23_0 ?a23_1 ?i23 ?j23 ?l23 ?c23 ?k23 ?a24 ?l24 ?c24 ?k24 ?a25 ?l25 ?c25 ?k25 ?a26 ?l26 ?c26 ?k26 ?a27 ?l27 ?c27 ?k27 ?a28 ?l28 ?c28 ?k28 ?a29 ?l29 ?c29 ?k29 ?a30 ?l30 ?c30 ?k30 ?a31 ?i31 ?l31 ?c31 ?k31 ?a32 ?l32 ?c32 ?k32 ?a33 ?l33 ?c33 ?k33 ?a34 ?l34 ?c34 ?k34 ?a35 ?i35 ?l35 ?c35 ?k35 ?a36 ?l36 ?c36 ?k36 ?a37 ?l37 ?c37 ?k37 ?a38 ?l38 ?c38 ?k38 ?a39 ?l39 ?tl0 ?tv0 ?tb0 ?tn0 ?c39 ?k39 ?a40 ?l40 ?c40 ?k40 ?a41_0 ?a41_1 ?s41 ?t41 ?r41 ?l41 ?c41 ?k41 ?xa0 ?xa1 ?xa2 ?xa3 ?xa4 ?xa5 ?xa6 ?xsu ?xtp ?xi0 ?xl0 ?xm0 ?xv0 ?xn0 ?xo0 ?xc0 ?xk0 ?xr0 ?xsa0 ?xex0 ?xty0 ?xke0 ?xse0 ?xsv0 ?xq0 ?xno0 ?xti0 ?xga0 ?xgg0 ?xhd0 ?xha0 ?xsp0 ?xtk0 ?xmo0 ?xfl0 ?xx0 ?xy0_0 ?xz0 ?xy2_0 ?xz2 ?xy3_0 ?xz3 ?xy4_0 ?xz4 ?xy5_0 ?xz5 ?xy6_0 ?xz6 ?xyV_0 ?xzV ?x_MOST_COUNT ?x_MOST_LIFE ?x_MOST_POINTS ?x_MOST_TICKS ?x_PAIR ?z_ValueError ?z_abs ?z_all ?z_bool ?z_int ?z_isinstance ?z_len ?z_max ?z_min ?z_range ?z_repr ?z_tuple ?z_zip
    (case aC0 => k_is)
    (case pg0 => k_is)
    (case hd0 => k_is)
    (case po0 => k_is)
    (case sa0 => k_is)
    (case rd0 => k_is)
    (case ga0 => k_is)
    (case nh0 => k_is)
    (case mk0 => k_is)
    (case kc0 => k_is)
    (case aC1 => k_is)
    (case pg1 => k_is)
    (case hd1 => k_is)
    (case po1 => k_is)
    (case sa1 => k_is)
    (case rd1 => k_is)
    (case ga1 => k_is)
    (case nh1 => k_is)
    (case aC2 => k_is)
    (case pg2 => k_is)
    (case hd2 => k_is)
    (case po2 => k_is)
    (case sa2 => k_is)
    (case rd2 => k_is)
    (case ga2 => k_is)
    (case nh2 => k_is)
    (case mk2 => k_is)
    (case kc2 => k_is)
    (case ow0 => k_is)
    (case ow1 => k_is)
    (case ow2 => k_is)
    (case ow3 => k_is)
    (case ia0_0 => k_is)
    (case ia0_1 => k_is)
    (case ib0 => k_is)
    (case ic0 => k_is)
    (case id0_0 => k_is)
    (case id0_1 => k_is)
    (case ie0_0 => kernel_rfl)
    (case ie0_1 => kernel_rfl)
    (case if0_NoneType => kernel_rfl)
    (case if0_bool => kernel_rfl)
    (case if0_int => kernel_rfl)
    (case if0_str => kernel_rfl)
    (case if0_tuple => kernel_rfl)
    (case if0_list => kernel_rfl)
    (case if0_dict => kernel_rfl)
    (case a0 => k_is)
    (case l0 => k_is)
    (case c0 => k_is)
    (case k0 => k_is)
    (case a1 => k_is)
    (case l1 => k_is)
    (case c1 => k_is)
    (case k1 => k_is)
    (case a2 => k_is)
    (case l2 => k_is)
    (case c2 => k_is)
    (case k2 => k_is)
    (case a3 => k_is)
    (case l3 => k_is)
    (case c3 => k_is)
    (case k3 => k_is)
    (case a4 => k_is)
    (case l4 => k_is)
    (case t4 => k_is)
    (case c4 => k_is)
    (case k4 => k_is)
    (case a5 => k_is)
    (case r5 => k_is)
    (case l5 => k_is)
    (case c5 => k_is)
    (case k5 => k_is)
    (case a6 => k_is)
    (case l6 => k_is)
    (case c6 => k_is)
    (case k6 => k_is)
    (case a7 => k_is)
    (case i7 => k_is)
    (case l7 => k_is)
    (case c7 => k_is)
    (case k7 => k_is)
    (case a8 => k_is)
    (case r8 => k_is)
    (case i8 => k_is)
    (case l8 => k_is)
    (case c8 => k_is)
    (case k8 => k_is)
    (case a9 => k_is)
    (case l9 => k_is)
    (case c9 => k_is)
    (case k9 => k_is)
    (case a10 => k_is)
    (case l10 => k_is)
    (case c10 => k_is)
    (case k10 => k_is)
    (case a11 => k_is)
    (case l11 => k_is)
    (case c11 => k_is)
    (case k11 => k_is)
    (case a12 => k_is)
    (case l12 => k_is)
    (case c12 => k_is)
    (case k12 => k_is)
    (case a13 => k_is)
    (case i13 => k_is)
    (case l13 => k_is)
    (case n13 => k_is)
    (case c13 => k_is)
    (case k13 => k_is)
    (case a14 => k_is)
    (case s14 => k_is)
    (case t14 => k_is)
    (case r14 => k_is)
    (case l14 => k_is)
    (case c14 => k_is)
    (case k14 => k_is)
    (case a15_0 => k_is)
    (case a15_1 => k_is)
    (case i15 => k_is)
    (case j15 => k_is)
    (case r15_0 => k_is)
    (case r15_1 => k_is)
    (case h15_0 => k_is)
    (case h15_1 => k_is)
    (case l15 => k_is)
    (case c15 => k_is)
    (case k15 => k_is)
    (case a16 => k_is)
    (case s16 => k_is)
    (case t16 => k_is)
    (case r16 => k_is)
    (case l16 => k_is)
    (case c16 => k_is)
    (case k16 => k_is)
    (case a17 => k_is)
    (case l17 => k_is)
    (case c17 => k_is)
    (case k17 => k_is)
    (case a18 => k_is)
    (case l18 => k_is)
    (case c18 => k_is)
    (case k18 => k_is)
    (case a19 => k_is)
    (case l19 => k_is)
    (case c19 => k_is)
    (case k19 => k_is)
    (case a20_0 => k_is)
    (case a20_1 => k_is)
    (case i20 => k_is)
    (case j20 => k_is)
    (case l20 => k_is)
    (case c20 => k_is)
    (case k20 => k_is)
    (case a21 => k_is)
    (case i21 => k_is)
    (case j21 => k_is)
    (case l21 => k_is)
    (case c21 => k_is)
    (case k21 => k_is)
    (case a22 => k_is)
    (case l22 => k_is)
    (case c22 => k_is)
    (case k22 => k_is)
    (case a23_0 => k_is)
    (case a23_1 => k_is)
    (case i23 => k_is)
    (case j23 => k_is)
    (case l23 => k_is)
    (case c23 => k_is)
    (case k23 => k_is)
    (case a24 => k_is)
    (case l24 => k_is)
    (case c24 => k_is)
    (case k24 => k_is)
    (case a25 => k_is)
    (case l25 => k_is)
    (case c25 => k_is)
    (case k25 => k_is)
    (case a26 => k_is)
    (case l26 => k_is)
    (case c26 => k_is)
    (case k26 => k_is)
    (case a27 => k_is)
    (case l27 => k_is)
    (case c27 => k_is)
    (case k27 => k_is)
    (case a28 => k_is)
    (case l28 => k_is)
    (case c28 => k_is)
    (case k28 => k_is)
    (case a29 => k_is)
    (case l29 => k_is)
    (case c29 => k_is)
    (case k29 => k_is)
    (case a30 => k_is)
    (case l30 => k_is)
    (case c30 => k_is)
    (case k30 => k_is)
    (case a31 => k_is)
    (case i31 => k_is)
    (case l31 => k_is)
    (case c31 => k_is)
    (case k31 => k_is)
    (case a32 => k_is)
    (case l32 => k_is)
    (case c32 => k_is)
    (case k32 => k_is)
    (case a33 => k_is)
    (case l33 => k_is)
    (case c33 => k_is)
    (case k33 => k_is)
    (case a34 => k_is)
    (case l34 => k_is)
    (case c34 => k_is)
    (case k34 => k_is)
    (case a35 => k_is)
    (case i35 => k_is)
    (case l35 => k_is)
    (case c35 => k_is)
    (case k35 => k_is)
    (case a36 => k_is)
    (case l36 => k_is)
    (case c36 => k_is)
    (case k36 => k_is)
    (case a37 => k_is)
    (case l37 => k_is)
    (case c37 => k_is)
    (case k37 => k_is)
    (case a38 => k_is)
    (case l38 => k_is)
    (case c38 => k_is)
    (case k38 => k_is)
    (case a39 => k_is)
    (case l39 => k_is)
    (case tl0 => k_is)
    (case tv0 => exact rfl)
    (case tb0 => kernel_rfl)
    (case tn0 => kernel_rfl)
    (case c39 => k_is)
    (case k39 => k_is)
    (case a40 => k_is)
    (case l40 => k_is)
    (case c40 => k_is)
    (case k40 => k_is)
    (case a41_0 => k_is)
    (case a41_1 => k_is)
    (case s41 => k_is)
    (case t41 => k_is)
    (case r41 => k_is)
    (case l41 => k_is)
    (case c41 => k_is)
    (case k41 => k_is)
    (case xa0 => k_is)
    (case xa1 => k_is)
    (case xa2 => k_is)
    (case xa3 => k_is)
    (case xa4 => k_is)
    (case xa5 => k_is)
    (case xa6 => k_is)
    (case xsu => k_is)
    (case xtp => k_is)
    (case xi0 => k_is)
    (case xl0 => k_is)
    (case xm0 => k_is)
    (case xv0 => exact rfl)
    (case xn0 => k_is)
    (case xo0 => kernel_rfl)
    (case xc0 => k_is)
    (case xk0 => k_is)
    (case xr0 => kernel_rfl)
    (case xsa0 => k_is)
    (case xex0 => k_is)
    (case xty0 => k_is)
    (case xke0 => k_is)
    (case xse0 => k_is)
    (case xsv0 => k_is)
    (case xq0 => kernel_rfl)
    (case xno0 => k_is)
    (case xti0 => k_is)
    (case xga0 => k_is)
    (case xgg0 => k_is)
    (case xhd0 => k_is)
    (case xha0 => k_is)
    (case xsp0 => k_is)
    (case xtk0 => k_is)
    (case xmo0 => k_is)
    (case xfl0 => exact ⟨by decide +kernel, by decide +kernel⟩)
    (case xx0 => kernel_rfl)
    (case xy0_0 => kernel_rfl)
    (case xz0 => kernel_rfl)
    (case xy2_0 => kernel_rfl)
    (case xz2 => kernel_rfl)
    (case xy3_0 => kernel_rfl)
    (case xz3 => kernel_rfl)
    (case xy4_0 => kernel_rfl)
    (case xz4 => kernel_rfl)
    (case xy5_0 => kernel_rfl)
    (case xz5 => kernel_rfl)
    (case xy6_0 => kernel_rfl)
    (case xz6 => kernel_rfl)
    (case xyV_0 => kernel_rfl)
    (case xzV => kernel_rfl)
    (case x_MOST_COUNT => k_is)
    (case x_MOST_LIFE => k_is)
    (case x_MOST_POINTS => k_is)
    (case x_MOST_TICKS => k_is)
    (case x_PAIR => k_is)
    (case z_ValueError => k_is)
    (case z_abs => k_is)
    (case z_all => k_is)
    (case z_bool => k_is)
    (case z_int => k_is)
    (case z_isinstance => k_is)
    (case z_len => k_is)
    (case z_max => k_is)
    (case z_min => k_is)
    (case z_range => k_is)
    (case z_repr => k_is)
    (case z_tuple => k_is)
    (case z_zip => k_is)
