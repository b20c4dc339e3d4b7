import PyProof.Rows.All
import Wide.All
import OpenK.AllK
import Wide.FinOn
import HandS.ForMost
import HandS.Walk
import HandS.Lambda
import HandS.ExcInit
import HandS.Wide
import HandS.WideBits
import HandS.TupAny
import HandS.SortInts
import HandS.IsInst
import HandS.Zip
import KE.GoesMore
import HandS.Ends
import PyProof.ReprReads
import PyProof.StrHeap
import HandS.Star
import HandS.ClsMeth
import HandS.Property
import HandS.Defaults
import PyProof.EnumMake
import PyProof.Draws
import KE.KUnpackStar
import PyProof.AttrMiss
import PyProof.InstNe
import KE.KOpsOwn
import HandS.Nested
import KE.KSuper
import HandS.Style
import HandS.SortKw
import KE.DatumOrd
import HandS.Conv
import HandS.TupMul
import HandS.GenList
import HandS.MakeKwOnly
import HandS.Dict
import HandS.Iter
import PySem.Challenge.RW_rulerkeep_k18_greatest_counts
set_option linter.all false
set_option autoImplicit false
set_option maxRecDepth 100000
set_option maxHeartbeats 4000000
set_option Elab.async false
/-! Ev0: data, cells, the evaluator's monads; how data lie in the hand layer's heap. -/
namespace Ev
open PySem L2

/-- data -/
inductive D where
  | non | bl (b : Bool) | int (i : Int) | str (x : Str)
  | tup (xs : List D) | lst (xs : List D)
  | ob (c : Nat) (x : D)
  | g (n : Nat)
  | sc (ns : List Int)
  | cl (c : Nat)
  | dct (kvs : List (Int × Int))
  | exc (c : Nat) (x : D)
  | da (xs : List D)
inductive Cell where
  | lst (xs : List D)
  | ob (c : Nat) (x : D)
  | dct (kvs : List (Int × Int))
  | tbl (n : Nat)
abbrev GS := List Cell
inductive Slot where
  | no | v (d : D) | own (xs : List D)
abbrev Env := List Slot
inductive R (α : Type) where
  | ok (a : α) (g : GS) | ex (c : Nat) (d : D) (g : GS) | bad
abbrev M (α : Type) := Env → GS → R α
inductive RS where
  | nx (e : Env) (g : GS) | rt (d : D) (g : GS) | bk (e : Env) (g : GS) | ct (e : Env) (g : GS)
  | ex (c : Nat) (d : D) (g : GS) | bad
abbrev MS := Env → GS → RS

def R.bind {α β : Type} (r : R α) (f : α → GS → R β) : R β := match r with
  | .ok a g => f a g
  | .ex c d g => .ex c d g
  | .bad => .bad
@[simp] theorem R.bind_ok {α β : Type} (a : α) (g : GS) (f : α → GS → R β) : (R.ok a g).bind f = f a g := rfl
@[simp] theorem R.bind_ex {α β : Type} (c : Nat) (d : D) (g : GS) (f : α → GS → R β) : (R.ex c d g : R α).bind f = .ex c d g := rfl
@[simp] theorem R.bind_bad {α β : Type} (f : α → GS → R β) : (R.bad : R α).bind f = .bad := rfl
def R.of {α : Type} (o : Option α) (g : GS) : R α := match o with
  | some a => .ok a g
  | none => .bad
@[simp] theorem R.of_some {α : Type} (a : α) (g : GS) : R.of (some a) g = .ok a g := rfl
@[simp] theorem R.of_none {α : Type} (g : GS) : (R.of none g : R α) = .bad := rfl
/-- an expression's value, on to a statement -/
def R.toS {α : Type} (r : R α) (f : α → GS → RS) : RS := match r with
  | .ok a g => f a g
  | .ex c d g => .ex c d g
  | .bad => .bad
@[simp] theorem R.toS_ok {α : Type} (a : α) (g : GS) (f : α → GS → RS) : (R.ok a g).toS f = f a g := rfl
@[simp] theorem R.toS_ex {α : Type} (c : Nat) (d : D) (g : GS) (f : α → GS → RS) : (R.ex c d g : R α).toS f = .ex c d g := rfl
@[simp] theorem R.toS_bad {α : Type} (f : α → GS → RS) : (R.bad : R α).toS f = .bad := rfl

/-- where the program's own things stand -/
structure Wd where
  K : PySem.W.Frag
  cl : Nat → Addr
  fd : Nat → Str
  ec : Nat → Addr
  tb : Nat → Addr
  tq : Nat → Str
/-- addresses that data may not name: the callers' own lists, this frame's own lists, the cells -/
structure Fb where
  nu : List Addr
  om : List Addr
  th : List Addr
def Fb.has (F : Fb) (a : Addr) : Prop := a ∈ F.nu ∨ a ∈ F.om ∨ a ∈ F.th

def TupAt (W : Wd) (F : Fb) (H : Hp) (a : Addr) (vs : List V) : Prop :=
  (Rd H a (.tup vs) ∧ ¬ F.has a) ∨
    ∃ (o : Obj) (its : Array Value) (n : Nat), W.K.lookup a = some o ∧ o.cls = .type "tuple" ∧ o.data = .seq its n ∧ its.size ≤ sizeLine ∧ Vals vs its.toList
/-- the script: a locked list, or one of the module's own -/
def ScAt (W : Wd) (F : Fb) (H : Hp) (a : Addr) (ns : List Int) : Prop :=
  ((∃ o, H a = some (.frz o (.lst (ns.map V.int)))) ∧ ¬ F.has a) ∨
    ∃ (o : Obj) (its : Array Value) (n : Nat), W.K.lookup a = some o ∧ o.cls = .type "list" ∧ o.dict = none ∧ o.data = .seq its n ∧ its.size ≤ sizeLine ∧ Vals (ns.map V.int) its.toList
theorem ScAt.seq {W : Wd} {F : Fb} {H : Hp} {a : Addr} {ns : List Int} (h : ScAt W F H a ns) : SqL W.K H a (ns.map V.int) := by
  rcases h with ⟨⟨o, h⟩, _⟩ | h
  · exact .inl (.inr ⟨o, h⟩)
  · exact .inr h
/-- a dict's pair -/
def dkv (p : Int × Int) : Key × V := (Sum.inl p.1, V.int p.2)
/-- the pair of a dict of one text key -/
def dka (v : V) : Key × V := (Sum.inr "a", v)
/-- a caught exception's object: its class, its dict -/
def exv (a C d : Addr) : HO := .ext fun h => ∃ oe vs, h.get? a = some oe ∧ oe.cls = .ref C ∧ oe.dict = some d ∧ oe.data = .fields vs
/-- a table of code objects of one name -/
def TabF (F : Fb) (H : Hp) (P : Addr) (q : Str) : Prop := ∃ ps : Array Value, H P = some (.tbl ps) ∧ TriplesOk ps.toList ∧ ∀ (pos : Pos) (cv : Value), codeAmong pos ps.toList = some cv → ∃ c, cv = .ref c ∧ H c = some (LamX.CodeO c q) ∧ ¬ F.has c
mutual
def Rep (W : Wd) (F : Fb) (H : Hp) : D → V → Prop
  | .non, v => v = .non
  | .bl b, v => v = .bl b
  | .int i, v => v = .int i
  | .str x, v => v = .str x
  | .tup ds, v => ∃ a vs, v = .ref a ∧ TupAt W F H a vs ∧ RepL W F H ds vs
  | .lst ds, v => ∃ a vs, v = .ref a ∧ H a = some (.lst vs) ∧ ¬ F.has a ∧ RepL W F H ds vs
  | .ob c d, v => ∃ a dx u, v = .ref a ∧ H a = some (.ins (W.cl c) dx [(W.fd c, u)]) ∧ ¬ F.has a ∧ Rep W F H d u
  | .g n, v => ∃ a, F.th[n]? = some a ∧ v = .ref a
  | .sc ns, v => ∃ a, v = .ref a ∧ ScAt W F H a ns
  | .cl c, v => v = .ref (W.cl c)
  | .dct kvs, v => ∃ a, v = .ref a ∧ Rd H a (.dK (kvs.map dkv)) ∧ ¬ F.has a
  | .exc c d, v => ∃ a dx u, v = .ref a ∧ H a = some (exv a (W.ec c) dx) ∧ ¬ F.has a ∧ H dx = some (.xd [("value", u)]) ∧ ¬ F.has dx ∧ Rep W F H d u
  | .da ds, v => ∃ a vs, v = .ref a ∧ Rd H a (.dK (vs.map dka)) ∧ ¬ F.has a ∧ RepL W F H ds vs
def RepL (W : Wd) (F : Fb) (H : Hp) : List D → List V → Prop
  | [], vs => vs = []
  | d :: ds, vs => ∃ v r, vs = v :: r ∧ Rep W F H d v ∧ RepL W F H ds r
end

/-- what keeps data as they are -/
structure Up (F F' : Fb) (H H' : Hp) : Prop where
  keep : ∀ a o, H a = some o → ¬ F.has a → H' a = some o ∧ ¬ F'.has a
  th : ∃ more, F'.th = F.th ++ more
theorem Up.rd {F F' : Fb} {H H' : Hp} {a : Addr} {o : HO} (u : Up F F' H H') (h : Rd H a o) (n : ¬ F.has a) : Rd H' a o ∧ ¬ F'.has a := by
  rcases h with h | ⟨o', h⟩
  · exact ⟨.inl (u.keep _ _ h n).1, (u.keep _ _ h n).2⟩
  · exact ⟨.inr ⟨o', (u.keep _ _ h n).1⟩, (u.keep _ _ h n).2⟩
theorem TupAt.up {W : Wd} {F F' : Fb} {H H' : Hp} {a : Addr} {vs : List V} (u : Up F F' H H') (h : TupAt W F H a vs) : TupAt W F' H' a vs := by
  rcases h with ⟨h, n⟩ | h
  · exact .inl (u.rd h n)
  · exact .inr h
mutual
theorem Rep.up {W : Wd} {F F' : Fb} {H H' : Hp} (u : Up F F' H H') : ∀ {d : D} {v : V}, Rep W F H d v → Rep W F' H' d v
  | .non, v, h => h
  | .bl _, v, h => h
  | .int _, v, h => h
  | .str _, v, h => h
  | .tup ds, v, h => by
    obtain ⟨a, vs, e, t, r⟩ := h
    exact ⟨a, vs, e, t.up u, RepL.up u r⟩
  | .lst ds, v, h => by
    obtain ⟨a, vs, e, t, n, r⟩ := h
    exact ⟨a, vs, e, (u.keep _ _ t n).1, (u.keep _ _ t n).2, RepL.up u r⟩
  | .ob c d, v, h => by
    obtain ⟨a, dx, x, e, t, n, r⟩ := h
    exact ⟨a, dx, x, e, (u.keep _ _ t n).1, (u.keep _ _ t n).2, Rep.up u r⟩
  | .g n, v, h => by
    obtain ⟨a, e, r⟩ := h
    obtain ⟨m, hm⟩ := u.th
    refine ⟨a, ?_, r⟩
    rw [hm, List.getElem?_append_left (List.getElem?_eq_some_iff.mp e).1]
    exact e
  | .cl _, v, h => h
  | .dct kvs, v, h => by
    obtain ⟨a, e, t, n⟩ := h
    exact ⟨a, e, u.rd t n⟩
  | .exc c d, v, h => by
    obtain ⟨a, dx, x, e, t, n, t2, n2, r⟩ := h
    exact ⟨a, dx, x, e, (u.keep _ _ t n).1, (u.keep _ _ t n).2, (u.keep _ _ t2 n2).1, (u.keep _ _ t2 n2).2, Rep.up u r⟩
  | .da ds, v, h => by
    obtain ⟨a, vs, e, t, n, r⟩ := h
    exact ⟨a, vs, e, (u.rd t n).1, (u.rd t n).2, RepL.up u r⟩
  | .sc ns, v, h => by
    obtain ⟨a, e, t⟩ := h
    refine ⟨a, e, ?_⟩
    rcases t with ⟨⟨o, t⟩, n⟩ | t
    · exact .inl ⟨⟨o, (u.keep _ _ t n).1⟩, (u.keep _ _ t n).2⟩
    · exact .inr t
theorem RepL.up {W : Wd} {F F' : Fb} {H H' : Hp} (u : Up F F' H H') : ∀ {ds : List D} {vs : List V}, RepL W F H ds vs → RepL W F' H' ds vs
  | [], vs, h => h
  | d :: ds, vs, h => by
    obtain ⟨v, r, e, h1, h2⟩ := h
    exact ⟨v, r, e, Rep.up u h1, RepL.up u h2⟩
end
theorem TupAt.seq {W : Wd} {F : Fb} {H : Hp} {a : Addr} {vs : List V} (h : TupAt W F H a vs) : SqT W.K H a vs := by
  rcases h with ⟨h, _⟩ | h
  · exact .inl h
  · exact .inr h

/-! ### lists of data -/
section
variable {W : Wd} {F : Fb} {H : Hp}
theorem RepL.length : ∀ {ds : List D} {vs : List V}, RepL W F H ds vs → ds.length = vs.length
  | [], vs, h => by cases (show vs = [] from h); rfl
  | d :: ds, vs, h => by
    obtain ⟨v, r, rfl, _, h2⟩ := h
    simp [RepL.length h2]
theorem RepL.get : ∀ {ds : List D} {vs : List V} {i : Nat} {d : D}, RepL W F H ds vs → ds[i]? = some d → ∃ v, vs[i]? = some v ∧ Rep W F H d v
  | [], vs, i, d, h, e => by simp at e
  | d :: ds, vs, 0, x, h, e => by
    obtain ⟨v, r, rfl, h1, h2⟩ := h
    simp at e
    exact ⟨v, rfl, e ▸ h1⟩
  | d :: ds, vs, i + 1, x, h, e => by
    obtain ⟨v, r, rfl, h1, h2⟩ := h
    simpa using RepL.get h2 (by simpa using e)
theorem RepL.get' : ∀ {ds : List D} {vs : List V} {i : Nat} {v : V}, RepL W F H ds vs → vs[i]? = some v → ∃ d, ds[i]? = some d ∧ Rep W F H d v := fun {ds vs i v} h e => by
  have hl := h.length
  have hi : i < ds.length := by rw [hl]; exact (List.getElem?_eq_some_iff.mp e).1
  obtain ⟨w, e2, r⟩ := h.get (List.getElem?_eq_getElem hi)
  rw [e] at e2
  cases e2
  exact ⟨_, List.getElem?_eq_getElem hi, r⟩
theorem RepL.append : ∀ {ds es : List D} {vs ws : List V}, RepL W F H ds vs → RepL W F H es ws → RepL W F H (ds ++ es) (vs ++ ws)
  | [], es, vs, ws, h, k => by cases (show vs = [] from h); exact k
  | d :: ds, es, vs, ws, h, k => by
    obtain ⟨v, r, rfl, h1, h2⟩ := h
    exact ⟨v, r ++ ws, rfl, h1, RepL.append h2 k⟩
theorem RepL.drop : ∀ (n : Nat) {ds : List D} {vs : List V}, RepL W F H ds vs → RepL W F H (ds.drop n) (vs.drop n)
  | 0, _, _, h => h
  | _ + 1, [], vs, h => by cases (show vs = [] from h); exact rfl
  | n + 1, d :: ds, vs, h => by
    obtain ⟨v, r, rfl, h1, h2⟩ := h
    exact RepL.drop n h2
theorem RepL.take : ∀ (n : Nat) {ds : List D} {vs : List V}, RepL W F H ds vs → RepL W F H (ds.take n) (vs.take n)
  | 0, _, _, _ => rfl
  | _ + 1, [], vs, h => by cases (show vs = [] from h); exact rfl
  | n + 1, d :: ds, vs, h => by
    obtain ⟨v, r, rfl, h1, h2⟩ := h
    exact ⟨v, r.take n, rfl, h1, RepL.take n h2⟩
theorem RepL.set : ∀ (i : Nat) {ds : List D} {vs : List V} {d : D} {v : V}, RepL W F H ds vs → Rep W F H d v → RepL W F H (ds.set i d) (vs.set i v)
  | _, [], vs, _, _, h, _ => by cases (show vs = [] from h); exact rfl
  | 0, x :: ds, vs, d, v, h, k => by
    obtain ⟨w, r, rfl, h1, h2⟩ := h
    exact ⟨v, r, rfl, k, h2⟩
  | i + 1, x :: ds, vs, d, v, h, k => by
    obtain ⟨w, r, rfl, h1, h2⟩ := h
    exact ⟨w, r.set i v, rfl, h1, RepL.set i h2 k⟩
theorem RepL.nil : RepL W F H [] [] := rfl
theorem RepL.one {d : D} {v : V} (h : Rep W F H d v) : RepL W F H [d] [v] := ⟨v, [], rfl, h, rfl⟩
theorem RepL.ints : ∀ {ns : List Int} {vs : List V}, RepL W F H (ns.map D.int) vs → vs = ns.map V.int
  | [], vs, h => h
  | n :: ns, vs, h => by
    obtain ⟨v, r, rfl, h1, h2⟩ := h
    rw [show v = V.int n from h1, RepL.ints h2]; rfl
theorem RepL.bls : ∀ {ns : List Bool} {vs : List V}, RepL W F H (ns.map D.bl) vs → vs = ns.map V.bl
  | [], vs, h => h
  | n :: ns, vs, h => by
    obtain ⟨v, r, rfl, h1, h2⟩ := h
    rw [show v = V.bl n from h1, RepL.bls h2]; rfl
theorem RepL.of_ints : ∀ (ns : List Int), RepL W F H (ns.map D.int) (ns.map V.int)
  | [] => rfl
  | n :: ns => ⟨V.int n, ns.map V.int, rfl, rfl, RepL.of_ints ns⟩
end

/-! ### cells -/
def CellR (W : Wd) (F : Fb) (H : Hp) (a : Addr) : Cell → Prop
  | .lst ds => ∃ vs, H a = some (.lst vs) ∧ RepL W F H ds vs
  | .ob c d => ∃ dx u, H a = some (.ins (W.cl c) dx [(W.fd c, u)]) ∧ Rep W F H d u
  | .dct kvs => H a = some (.dK (kvs.map dkv))
  | .tbl n => a = W.tb n ∧ TabF F H a (W.tq n)
theorem TabF.down {F F' : Fb} {H : Hp} {P : Addr} {q : Str} (hh : ∀ a, F'.has a → F.has a) (h : TabF F H P q) : TabF F' H P q := by
  obtain ⟨ps, e, t, r⟩ := h
  refine ⟨ps, e, t, fun pos cv hc => ?_⟩
  obtain ⟨c, e1, e2, e3⟩ := r pos cv hc
  exact ⟨c, e1, e2, fun z => e3 (hh c z)⟩
structure Cells (W : Wd) (F : Fb) (H : Hp) (g : List Cell) : Prop where
  nd : F.th.Nodup
  len : F.th.length = g.length
  cel : ∀ (n : Nat) (a : Addr) (c : Cell), F.th[n]? = some a → g[n]? = some c → CellR W F H a c
  tr : ∀ a, F.has a → ∃ o, H a = some o
  dj : ∀ a ∈ F.th, a ∉ F.nu ∧ a ∉ F.om
  dj2 : ∀ a ∈ F.om, a ∉ F.nu
/-- an expression leaves all but the cells as it stood -/
structure Xe (F F' : Fb) (H H' : Hp) : Prop where
  keep : ∀ a o, H a = some o → a ∉ F.th → H' a = some o
  st : ∀ a o, H a = some o → ∃ o', H' a = some o'
  th : ∃ more, F'.th = F.th ++ more ∧ ∀ a ∈ more, H a = none
  nu : F'.nu = F.nu
  om : F'.om = F.om
/-- a statement, all but the cells and the frame's own lists -/
structure Xs (F F' : Fb) (H H' : Hp) : Prop where
  keep : ∀ a o, H a = some o → a ∉ F.th → a ∉ F.om → H' a = some o
  st : ∀ a o, H a = some o → ∃ o', H' a = some o'
  th : ∃ more, F'.th = F.th ++ more ∧ ∀ a ∈ more, H a = none
  nu : F'.nu = F.nu
  om : ∀ a ∈ F'.om, a ∈ F.om ∨ H a = none
theorem Xe.refl {F : Fb} {H : Hp} : Xe F F H H := ⟨fun _ _ h _ => h, fun _ o h => ⟨o, h⟩, ⟨[], by simp, by simp⟩, rfl, rfl⟩
theorem Xe.xs {F F' : Fb} {H H' : Hp} (x : Xe F F' H H') : Xs F F' H H' := ⟨fun a o h n _ => x.keep a o h n, x.st, x.th, x.nu, fun a h => .inl (by rw [x.om] at h; exact h)⟩
theorem Xs.refl {F : Fb} {H : Hp} : Xs F F H H := Xe.refl.xs
theorem Xs.up {F F' : Fb} {H H' : Hp} (x : Xs F F' H H') : Up F F' H H' := by
  refine ⟨fun a o h n => ⟨x.keep a o h (fun z => n (.inr (.inr z))) fun z => n (.inr (.inl z)), fun z => ?_⟩, let ⟨m, e, _⟩ := x.th; ⟨m, e⟩⟩
  rcases z with z | z | z
  · rw [x.nu] at z
    exact n (.inl z)
  · rcases x.om a z with z | z
    · exact n (.inr (.inl z))
    · rw [h] at z; cases z
  · obtain ⟨m, e, hm⟩ := x.th
    rw [e] at z
    rcases List.mem_append.mp z with z | z
    · exact n (.inr (.inr z))
    · have := hm a z
      rw [h] at this; cases this
theorem Xe.up {F F' : Fb} {H H' : Hp} (x : Xe F F' H H') : Up F F' H H' := x.xs.up
theorem back_none {H H1 : Hp} (st : ∀ a o, H a = some o → ∃ o', H1 a = some o') {a : Addr} (h : H1 a = none) : H a = none := by
  cases q : H a with
  | none => rfl
  | some o =>
    obtain ⟨o', e⟩ := st a o q
    rw [h] at e; cases e
theorem Xs.trans {F F1 F2 : Fb} {H H1 H2 : Hp} (x : Xs F F1 H H1) (y : Xs F1 F2 H1 H2) : Xs F F2 H H2 := by
  obtain ⟨m, e, hm⟩ := x.th
  obtain ⟨m2, e2, hm2⟩ := y.th
  refine ⟨fun a o h n no => ?_, fun a o h => ?_, ⟨m ++ m2, by rw [e2, e, List.append_assoc], fun a ha => ?_⟩, y.nu.trans x.nu, fun a ha => ?_⟩
  · refine y.keep a o (x.keep a o h n no) (fun z => ?_) fun z => ?_
    · rw [e] at z
      rcases List.mem_append.mp z with z | z
      · exact n z
      · have := hm a z
        rw [h] at this; cases this
    · rcases x.om a z with z | z
      · exact no z
      · rw [h] at z; cases z
  · obtain ⟨o', h'⟩ := x.st a o h
    exact y.st a o' h'
  · rcases List.mem_append.mp ha with ha | ha
    · exact hm a ha
    · exact back_none x.st (hm2 a ha)
  · rcases y.om a ha with h | h
    · exact x.om a h
    · exact .inr (back_none x.st h)
theorem Xe.trans {F F1 F2 : Fb} {H H1 H2 : Hp} (x : Xe F F1 H H1) (y : Xe F1 F2 H1 H2) : Xe F F2 H H2 := by
  have z := x.xs.trans y.xs
  refine ⟨fun a o h n => y.keep a o (x.keep a o h n) fun q => ?_, z.st, z.th, z.nu, y.om.trans x.om⟩
  obtain ⟨m, e, hm⟩ := x.th
  rw [e] at q
  rcases List.mem_append.mp q with q | q
  · exact n q
  · have := hm a q
    rw [h] at this; cases this
/-- a new object -/
theorem Cells.none {W : Wd} {F : Fb} {H : Hp} {g : List Cell} (c : Cells W F H g) {p : Addr} (h : H p = none) : ¬ F.has p := fun z => by
  obtain ⟨o, e⟩ := c.tr p z
  rw [h] at e; cases e
theorem Xe.new {F : Fb} {H : Hp} {p : Addr} {o : HO} (h : H p = none) : Xe F F H (upd H p o) :=
  ⟨fun a u e _ => by rw [upd_ne (ne_of_none e h)]; exact e, fun a u e => ⟨u, by rw [upd_ne (ne_of_none e h)]; exact e⟩, ⟨[], by simp, by simp⟩, rfl, rfl⟩
theorem CellR.up {W : Wd} {F F' : Fb} {H H' : Hp} (u : Up F F' H H') {a : Addr} {c : Cell} (h : CellR W F H a c) (k : H' a = H a) : CellR W F' H' a c := by
  cases c with
  | lst ds =>
    obtain ⟨vs, e, r⟩ := h
    exact ⟨vs, k.trans e, r.up u⟩
  | ob c d =>
    obtain ⟨dx, x, e, r⟩ := h
    exact ⟨dx, x, k.trans e, r.up u⟩
  | dct kvs => exact k.trans h
  | tbl q =>
    obtain ⟨e0, ps, e, t, r⟩ := h
    refine ⟨e0, ps, k.trans e, t, fun pos cv hc => ?_⟩
    obtain ⟨c, e1, e2, e3⟩ := r pos cv hc
    exact ⟨c, e1, (u.keep _ _ e2 e3).1, (u.keep _ _ e2 e3).2⟩
/-- all that is tracked stays -/
theorem Cells.stay {W : Wd} {F : Fb} {H H' : Hp} {g : List Cell} (c : Cells W F H g) (k : ∀ a o, H a = some o → H' a = some o) : Cells W F H' g := by
  have u : Up F F H H' := ⟨fun a o e n => ⟨k a o e, n⟩, [], by simp⟩
  refine ⟨c.nd, c.len, fun n a x h1 h2 => (c.cel n a x h1 h2).up u ?_, fun a h => ?_, c.dj, c.dj2⟩
  · obtain ⟨o, e⟩ := c.tr a (.inr (.inr (List.mem_of_getElem? h1)))
    rw [e, k a o e]
  · obtain ⟨o, e⟩ := c.tr a h
    exact ⟨o, k a o e⟩
theorem Cells.new {W : Wd} {F : Fb} {H : Hp} {g : List Cell} (c : Cells W F H g) {p : Addr} {o : HO} (h : H p = Option.none) : Cells W F (upd H p o) g :=
  c.stay fun a u e => by rw [upd_ne (ne_of_none e h)]; exact e

/-! ### the state -/
structure St (W : Wd) (F : Fb) (e : Env) (g : List Cell) (σ : L2.St) (H : Hp) : Prop where
  cells : Cells W F H g
  len : e.length = σ.length
  slots : ∀ (i : Nat) (d : D), e[i]? = some (.v d) → ∃ v, σ[i]? = some (some v) ∧ Rep W F H d v
  owns : ∀ (i : Nat) (ds : List D), e[i]? = some (.own ds) → ∃ a vs, σ[i]? = some (some (.ref a)) ∧ a ∈ F.om ∧ H a = some (.lst vs) ∧ RepL W F H ds vs
  apart : ∀ (i j : Nat) (ds es : List D) (a : Addr), i ≠ j → e[i]? = some (.own ds) → e[j]? = some (.own es) → σ[i]? = some (some (.ref a)) → σ[j]? ≠ some (some (.ref a))
theorem St.step {W : Wd} {F F' : Fb} {e : Env} {g g' : List Cell} {σ : L2.St} {H H' : Hp} (s : St W F e g σ H) (x : Xe F F' H H') (c : Cells W F' H' g') : St W F' e g' σ H' := by
  refine ⟨c, s.len, fun i d h => ?_, fun i ds h => ?_, s.apart⟩
  · obtain ⟨v, h1, h2⟩ := s.slots i d h
    exact ⟨v, h1, h2.up x.up⟩
  · obtain ⟨a, vs, h1, h2, h3, h4⟩ := s.owns i ds h
    refine ⟨a, vs, h1, by rw [x.om]; exact h2, x.keep a _ h3 fun z => (s.cells.dj a z).2 h2, h4.up x.up⟩

/-! ### what is only looked at: this frame's own lists too -/
def Look (W : Wd) (F : Fb) (H : Hp) : D → V → Prop
  | .lst ds, v => ∃ a vs, v = .ref a ∧ H a = some (.lst vs) ∧ a ∉ F.th ∧ RepL W F H ds vs
  | d, v => Rep W F H d v
theorem Rep.look {W : Wd} {F : Fb} {H : Hp} {d : D} {v : V} (h : Rep W F H d v) : Look W F H d v := by
  cases d with
  | lst ds =>
    obtain ⟨a, vs, e, k, n, r⟩ := h
    exact ⟨a, vs, e, k, fun z => n (.inr (.inr z)), r⟩
  | _ => exact h
theorem Look.up {W : Wd} {F F' : Fb} {H H' : Hp} (x : Xe F F' H H') {d : D} {v : V} (h : Look W F H d v) : Look W F' H' d v := by
  cases d with
  | lst ds =>
    obtain ⟨a, vs, e, k, n, r⟩ := h
    refine ⟨a, vs, e, x.keep _ _ k n, fun z => ?_, r.up x.up⟩
    obtain ⟨m, e, hm⟩ := x.th
    rw [e] at z
    rcases List.mem_append.mp z with z | z
    · exact n z
    · have := hm _ z
      rw [k] at this; cases this
  | _ => exact Rep.up (d := _) x.up h
def LookL (W : Wd) (F : Fb) (H : Hp) : List D → List V → Prop
  | [], vs => vs = []
  | d :: ds, vs => ∃ v r, vs = v :: r ∧ Look W F H d v ∧ LookL W F H ds r
theorem LookL.up {W : Wd} {F F' : Fb} {H H' : Hp} (x : Xe F F' H H') : ∀ {ds : List D} {vs : List V}, LookL W F H ds vs → LookL W F' H' ds vs
  | [], vs, h => h
  | d :: ds, vs, h => by
    obtain ⟨v, r, e, h1, h2⟩ := h
    exact ⟨v, r, e, h1.up x, LookL.up x h2⟩

/-! ### what is wanted behind -/
/-- an exception's dict -/
def Xd (F : Fb) (H : Hp) (dx : Addr) (v : V) : Prop := H dx = some (.xd [("value", v)]) ∧ ¬ F.has dx
theorem Xd.up {F F' : Fb} {H H' : Hp} (u : Up F F' H H') {dx : Addr} {v : V} (h : Xd F H dx v) : Xd F' H' dx v := u.keep _ _ h.1 h.2
def Post {α : Type} (W : Wd) (E : XK) (F : Fb) (H : Hp) (r : R α) (k : α → List Cell → Fb → Hp → Prop) : Prop := match r with
  | .ok a g => ∀ F' H', Xe F F' H H' → Cells W F' H' g → k a g F' H'
  | .ex c d g => ∀ F' H' dx v, Xe F F' H H' → Cells W F' H' g → Rep W F' H' d v → Xd F' H' dx v → E (.ref (W.ec c)) (some dx) H'
  | .bad => False
section
variable {W : Wd} {E : XK} {F F' : Fb} {H H' : Hp} {α β : Type}
theorem Post.mono {r : R α} {k k' : α → List Cell → Fb → Hp → Prop} (p : Post W E F H r k) (h : ∀ a g F' H', Xe F F' H H' → Cells W F' H' g → k a g F' H' → k' a g F' H') : Post W E F H r k' := by
  cases r with
  | ok a g => exact fun F' H' x c => h a g F' H' x c (p F' H' x c)
  | ex c d g => exact p
  | bad => exact p
theorem Post.on {r : R α} {k : α → List Cell → Fb → Hp → Prop} (p : Post W E F H r k) (x : Xe F F' H H') : Post W E F' H' r k := by
  cases r with
  | ok a g => exact fun F2 H2 y c => p F2 H2 (x.trans y) c
  | ex c d g => exact fun F2 H2 dx v y c => p F2 H2 dx v (x.trans y) c
  | bad => exact p
theorem Post.bind {r : R α} {f : α → List Cell → R β} {k : β → List Cell → Fb → Hp → Prop} (p : Post W E F H (r.bind f) k) : Post W E F H r fun a g F' H' => Post W E F' H' (f a g) k := by
  cases r with
  | ok a g => exact fun F2 H2 y c => Post.on (r := f a g) p y
  | ex c d g => exact p
  | bad => exact p
end
/-- an expression's reading by the evaluator -/
def tM (W : Wd) (E : XK) (m : M D) : TE := fun σ H Q => ∃ F e g, St W F e g σ H ∧ Post W E F H (m e g) fun d _ F' H' => ∀ v, Rep W F' H' d v → Q v H'
def tB (W : Wd) (E : XK) (m : M Bool) : TT := fun σ H Q => ∃ F e g, St W F e g σ H ∧ Post W E F H (m e g) fun b _ _ H' => Q b H'
def tL (W : Wd) (E : XK) (m : M (List D)) : TA := fun σ H Q => ∃ F e g, St W F e g σ H ∧ Post W E F H (m e g) fun ds _ F' H' => ∀ vs, RepL W F' H' ds vs → Q vs H'
/-- a new list, no one else's: it is laid last -/
def tF (W : Wd) (E : XK) (m : M (List D)) : TE := fun σ H Q => ∃ F e g, St W F e g σ H ∧ Post W E F H (m e g) fun ds _ F' H' => ∀ p vs, H' p = none → RepL W F' H' ds vs → Q (.ref p) (upd H' p (.lst vs))
/-- .. of what is only looked at -/
def tS (W : Wd) (E : XK) (m : M D) : TE := fun σ H Q => ∃ F e g, St W F e g σ H ∧ Post W E F H (m e g) fun d _ F' H' => ∀ v, Look W F' H' d v → Q v H'
def tLs (W : Wd) (E : XK) (m : M (List D)) : TA := fun σ H Q => ∃ F e g, St W F e g σ H ∧ Post W E F H (m e g) fun ds _ F' H' => ∀ vs, LookL W F' H' ds vs → Q vs H'
end Ev

/-! Ev1: expressions of the evaluator and their soundness. -/
namespace Ev
open PySem PySem.Spec PyProof.Rows L2

/-! ### weaker readings -/
theorem weakE {X : Cx} {e : Expr} {t t' : TE} (h : PE X e t) (w : ∀ σ H Q, t' σ H Q → t σ H Q) : PE X e t' := ⟨fun pins s σ H Q I q => h.run pins s σ H Q I (w σ H Q q)⟩
theorem weakT {X : Cx} {e : Expr} {t t' : TT} (h : PT X e t) (w : ∀ σ H Q, t' σ H Q → t σ H Q) : PT X e t' := ⟨fun pins s σ H Q I q => h.run pins s σ H Q I (w σ H Q q)⟩
theorem weakW {X : Cx} {e : Expr} {t t' : TT} (h : PW X e t) (w : ∀ σ H Q, t' σ H Q → t σ H Q) : PW X e t' := ⟨fun wh pins s σ H Q I q => h.run wh pins s σ H Q I (w σ H Q q)⟩
theorem weakA {X : Cx} {es : List Expr} {t t' : TA} (h : PA X es t) (w : ∀ σ H Q, t' σ H Q → t σ H Q) : PA X es t' := ⟨fun pos pins s σ H Q I q => h.run pos pins s σ H Q I (w σ H Q q)⟩
theorem weakS {X : Cx} {e : Stmt} {t t' : TS} (h : PS X e t) (w : ∀ D σ H, t' D σ H → t D σ H) : PS X e t' := ⟨fun pins s σ H D I q => h.run pins s σ H D I (w D σ H q)⟩
theorem weakB {X : Cx} {e : List Stmt} {t t' : TS} (h : PSs X e t) (w : ∀ D σ H, t' D σ H → t D σ H) : PSs X e t' := ⟨fun pins s σ H D I q => h.run pins s σ H D I (w D σ H q)⟩

section
variable {W : Wd} {E : XK} {X : Cx}
/-! ### names, constants -/
def varM (i : Nat) : M D := fun e g => match e[i]? with
  | some (.v d) => .ok d g
  | _ => .bad
/-- a name, this frame's own list too, for what only looks at it -/
def seeM (i : Nat) : M D := fun e g => match e[i]? with
  | some (.v d) => .ok d g
  | some (.own ds) => .ok (.lst ds) g
  | _ => .bad
def conM (d : D) : M D := fun _ g => .ok d g
theorem r_var {i : Nat} {σ : L2.St} {H : Hp} {Q : VK} (h : tM W E (varM i) σ H Q) : tVar i σ H Q := by
  obtain ⟨F, e, g, S, p⟩ := h
  unfold varM at p
  cases q : e[i]? with
  | none => rw [q] at p; exact p.elim
  | some sl =>
    rw [q] at p
    cases sl with
    | no => exact p.elim
    | own ds => exact p.elim
    | v d =>
      obtain ⟨v, h1, h2⟩ := S.slots i d q
      exact ⟨v, h1, p F H .refl S.cells v h2⟩
theorem ev_var (i : Nat) {x : Str} {pos : Pos} (hN : X.N[i]? = some x := by rfl) (hv : Vis X.env.scope x := by first | exact Or.inl rfl | exact Or.inr (Or.inl rfl) | exact Or.inr (Or.inr rfl)) (hd : (x == ("__debug__" : Str)) = false := by decide)
    (hcd : (x == ("__classdict__" : Str)) = false := by decide) : PE X (.Name x pos) (tM W E (varM i)) := weakE (pe_var hN hv hd hcd) fun _ _ _ h => r_var h
theorem r_con {d : D} {v : V} (hr : ∀ F H, Rep W F H d v) {σ : L2.St} {H : Hp} {Q : VK} (h : tM W E (conM d) σ H Q) : tC v σ H Q := by
  obtain ⟨F, e, g, S, p⟩ := h
  exact p F H .refl S.cells v (hr F H)
theorem ev_int {i : Int} {j pos} : PE X (.Constant (.int i) j pos) (tM W E (conM (.int i))) := weakE pe_int fun _ _ _ h => r_con (d := .int i) (v := .int i) (fun _ _ => rfl) h
theorem ev_bl {b : Bool} {j pos} : PE X (.Constant (.bool b) j pos) (tM W E (conM (.bl b))) := weakE pe_bl fun _ _ _ h => r_con (d := .bl b) (v := .bl b) (fun _ _ => rfl) h
theorem ev_non {j pos} : PE X (.Constant .none j pos) (tM W E (conM .non)) := weakE pe_non fun _ _ _ h => r_con (d := .non) (v := .non) (fun _ _ => rfl) h
theorem ev_str {x : Str} {j pos} : PE X (.Constant (.str x) j pos) (tM W E (conM (.str x))) := weakE pe_str fun _ _ _ h => r_con (d := .str x) (v := .str x) (fun _ _ => rfl) h
/-- any value is looked at -/
theorem PE.see {e : Expr} {m : M D} (h : PE X e (tM W E m)) : PE X e (tS W E m) := weakE h fun σ H Q ⟨F, e, g, S, p⟩ => ⟨F, e, g, S, p.mono fun _ _ _ _ _ _ k v r => k v r.look⟩
theorem r_see {i : Nat} {σ : L2.St} {H : Hp} {Q : VK} (h : tS W E (seeM i) σ H Q) : tVar i σ H Q := by
  obtain ⟨F, e, g, S, p⟩ := h
  unfold seeM at p
  cases q : e[i]? with
  | none => rw [q] at p; exact p.elim
  | some sl =>
    rw [q] at p
    cases sl with
    | no => exact p.elim
    | own ds =>
      obtain ⟨a, vs, h1, h2, h3, h4⟩ := S.owns i ds q
      exact ⟨_, h1, p F H .refl S.cells _ ⟨a, vs, rfl, h3, fun z => (S.cells.dj a z).2 h2, h4⟩⟩
    | v d =>
      obtain ⟨v, h1, h2⟩ := S.slots i d q
      exact ⟨v, h1, p F H .refl S.cells v h2.look⟩
theorem ev_see (i : Nat) {x : Str} {pos : Pos} (hN : X.N[i]? = some x := by rfl) (hv : Vis X.env.scope x := by first | exact Or.inl rfl | exact Or.inr (Or.inl rfl) | exact Or.inr (Or.inr rfl)) (hd : (x == ("__debug__" : Str)) = false := by decide)
    (hcd : (x == ("__classdict__" : Str)) = false := by decide) : PE X (.Name x pos) (tS W E (seeM i)) := weakE (pe_var hN hv hd hcd) fun _ _ _ h => r_see h

/-! ### two operands -/
def opM (f : D → D → List Cell → Option D) (a b : M D) : M D := fun e g => (a e g).bind fun x g1 => (b e g1).bind fun y g2 => R.of (f x y g2) g2
/-- f is what the rule r does -/
def RF (W : Wd) (f : D → D → List Cell → Option D) (r : R2) : Prop := ∀ (F : Fb) (H : Hp) (g : List Cell) (x y d : D) (v u : V) (Q : VK), Cells W F H g → Look W F H x v → Look W F H y u → f x y g = some d →
  (∀ H' w, (∀ a o, H a = some o → H' a = some o) → Cells W F H' g → Rep W F H' d w → Q w H') → r v u H Q
theorem Xe.all {F : Fb} {H H' : Hp} (k : ∀ a o, H a = some o → H' a = some o) : Xe F F H H' := ⟨fun a o h _ => k a o h, fun a o h => ⟨o, k a o h⟩, ⟨[], by simp, by simp⟩, rfl, rfl⟩
theorem post_of {F : Fb} {H : Hp} {α : Type} {o : Option α} {g : List Cell} {k : α → List Cell → Fb → Hp → Prop} (p : Post W E F H (R.of o g) k) : ∃ a, o = some a ∧ ∀ F' H', Xe F F' H H' → Cells W F' H' g → k a g F' H' := by
  cases o with
  | none => exact p.elim
  | some a => exact ⟨a, rfl, p⟩
theorem r_op {f : D → D → List Cell → Option D} {r : R2} (rf : RF W f r) {a b : M D} {σ : L2.St} {H : Hp} {Q : VK} (h : tM W E (opM f a b) σ H Q) : tOp r (tS W E a) (tS W E b) σ H Q := by
  obtain ⟨F, e, g, S, p⟩ := h
  refine ⟨F, e, g, S, (Post.bind p).mono fun x g1 F1 H1 x1 c1 p1 v r1 => ?_⟩
  refine ⟨F1, e, g1, S.step x1 c1, (Post.bind p1).mono fun y g2 F2 H2 x2 c2 p2 u r2 => ?_⟩
  obtain ⟨d, hd, k⟩ := post_of p2
  exact rf F2 H2 g2 x y d v u Q c2 (r1.up x2) r2 hd fun H' w kp c r => k F2 H' (.all kp) c w r
theorem ev_op {f : D → D → List Cell → Option D} {op : Operator} {r : R2} {a b : Expr} {pos : Pos} {ma mb : M D} (ho : OpR X (binaryOp op) r) (rf : RF W f r) (ha : PE X a (tS W E ma)) (hb : PE X b (tS W E mb)) :
    PE X (.BinOp a op b pos) (tM W E (opM f ma mb)) := weakE (pe_op ho ha hb) fun _ _ _ h => r_op rf h
/-- two ways -/
def orF (f f' : D → D → List Cell → Option D) : D → D → List Cell → Option D := fun x y g => match f x y g with
  | some d => some d
  | none => f' x y g
theorem RF.or {f f' : D → D → List Cell → Option D} {r r' : R2} (h : RF W f r) (h' : RF W f' r') : RF W (orF f f') (fun x y H Q => r x y H Q ∨ r' x y H Q) := by
  intro F H g x y d v u Q c rx ry e k
  unfold orF at e
  cases q : f x y g with
  | some d' =>
    simp only [q, Option.some.injEq] at e
    subst e
    exact .inl (h F H g x y _ v u Q c rx ry q k)
  | none =>
    simp only [q] at e
    exact .inr (h' F H g x y d v u Q c rx ry e k)

/-! #### whole numbers -/
def onI (C : Int → Int → Bool) (z : Int → Int → D) : D → D → List Cell → Option D := fun x y _ => match x, y with
  | .int i, .int j => if C i j = true then some (z i j) else none
  | _, _ => none
theorem rf_int {C : Int → Int → Bool} {P : Int → Int → Prop} {z : Int → Int → D} {z' : Int → Int → V} (hp : ∀ i j, C i j = true → P i j) (hz : ∀ i j F H, Rep W F H (z i j) (z' i j)) : RF W (onI C z) (rI P z') := by
  intro F H g x y d v u Q c rx ry e k
  cases x <;> try (cases e; done)
  cases y <;> try (cases e; done)
  rename_i i j
  simp only [onI] at e
  split at e
  · rename_i hc
    cases e
    exact ⟨i, j, rx, ry, hp i j hc, k H _ (fun _ _ h => h) c (hz i j F H)⟩
  · cases e
def onI0 (z : Int → Int → D) : D → D → List Cell → Option D := fun x y _ => match x, y with
  | .int i, .int j => some (z i j)
  | _, _ => none
theorem rf_int0 {z : Int → Int → D} {z' : Int → Int → V} (hz : ∀ i j F H, Rep W F H (z i j) (z' i j)) : RF W (onI0 z) (rI0 z') := by
  intro F H g x y d v u Q c rx ry e k
  cases x <;> try (cases e; done)
  cases y <;> try (cases e; done)
  rename_i i j
  cases e
  exact ⟨i, j, rx, ry, k H _ (fun _ _ h => h) c (hz i j F H)⟩
theorem RF.nm {f : D → D → List Cell → Option D} {r r' : R2} (h : RF W f r) (w : ∀ x y H Q, r x y H Q → r' x y H Q) : RF W f r' := fun F H g x y d v u Q c rx ry e k => w _ _ _ _ (h F H g x y d v u Q c rx ry e k)

def addS : D → D → List Cell → Option D := fun x y _ => match x, y with
  | .str i, .str j => if i.length + j.length ≤ 16777216 then some (.str (i ++ j)) else none
  | _, _ => none
theorem rf_addS : RF W addS (fun x y H Q => ∃ i j, x = .str i ∧ y = .str j ∧ i.length + j.length ≤ sizeLine ∧ Q (.str (i ++ j)) H) := by
  intro F H g x y d v u Q c rx ry e k
  cases x <;> try (cases e; done)
  cases y <;> try (cases e; done)
  rename_i i j
  simp only [addS] at e
  split at e
  · rename_i hc
    cases e
    exact ⟨i, j, rx, ry, by rw [sizeLine_eq]; exact hc, k H _ (fun _ _ h => h) c (show Rep W F H (.str (i ++ j)) _ from rfl)⟩
  · cases e
theorem tup_new {F : Fb} {H : Hp} {g : List Cell} (c : Cells W F H g) {p : Addr} (np : H p = none) {ds : List D} {vs : List V} (r : RepL W F H ds vs) : Rep W F (upd H p (.tup vs)) (.tup ds) (.ref p) :=
  ⟨p, vs, rfl, .inl ⟨.inl upd_same, c.none np⟩, r.up (Xe.new np).up⟩
theorem lst_new {F : Fb} {H : Hp} {g : List Cell} (c : Cells W F H g) {p : Addr} (np : H p = none) {ds : List D} {vs : List V} (r : RepL W F H ds vs) : Rep W F (upd H p (.lst vs)) (.lst ds) (.ref p) :=
  ⟨p, vs, rfl, upd_same, c.none np, r.up (Xe.new np).up⟩
theorem keep_new {H : Hp} {p : Addr} {o : HO} (np : H p = none) : ∀ a u, H a = some u → upd H p o a = some u := fun a u e => by rw [upd_ne (ne_of_none e np)]; exact e
def addT : D → D → List Cell → Option D := fun x y _ => match x, y with
  | .tup xs, .tup ys => if xs.length + ys.length ≤ 16777216 then some (.tup (xs ++ ys)) else none
  | _, _ => none
theorem nil_of_len {ds : List D} {vs : List V} {F : Fb} {H : Hp} (r : RepL W F H ds vs) (h : vs = []) : ds = [] := by
  have := r.length
  rw [h] at this
  exact List.eq_nil_of_length_eq_zero this
theorem rf_addT : RF W addT (rCatA W.K) := by
  intro F H g x y d v u Q c rx ry e k
  cases x <;> try (cases e; done)
  cases y <;> try (cases e; done)
  rename_i xs ys
  simp only [addT] at e
  split at e
  · rename_i hc
    cases e
    obtain ⟨a, vs, rfl, ta, ra⟩ := rx
    obtain ⟨b, us, rfl, tb, rb⟩ := ry
    refine ⟨a, b, vs, us, rfl, rfl, ta.seq, tb.seq, by rw [sizeLine_eq, ← ra.length, ← rb.length]; exact hc, fun h => ?_, fun _ h => ?_, fun _ _ p np => ?_⟩
    · have h0 := nil_of_len ra h
      subst h0
      exact k H _ (fun _ _ h => h) c ⟨b, us, rfl, tb, rb⟩
    · have h0 := nil_of_len rb h
      subst h0
      rw [List.append_nil] at k
      exact k H _ (fun _ _ h => h) c ⟨a, vs, rfl, ta, ra⟩
    · exact k _ _ (keep_new np) (c.new np) (tup_new c np (ra.append rb))
  · cases e
def addL : D → D → List Cell → Option D := fun x y _ => match x, y with
  | .lst xs, .lst ys => if xs.length + ys.length ≤ 16777216 then some (.lst (xs ++ ys)) else none
  | _, _ => none
theorem rf_addL : RF W addL rCat := by
  intro F H g x y d v u Q c rx ry e k
  cases x <;> try (cases e; done)
  cases y <;> try (cases e; done)
  rename_i xs ys
  simp only [addL] at e
  split at e
  · rename_i hc
    cases e
    obtain ⟨a, vs, rfl, ta, _, ra⟩ := rx
    obtain ⟨b, us, rfl, tb, _, rb⟩ := ry
    refine ⟨a, b, vs, us, rfl, rfl, ta, tb, by rw [sizeLine_eq, ← ra.length, ← rb.length]; exact hc, fun p np => ?_⟩
    exact k _ _ (keep_new np) (c.new np) (lst_new c np (ra.append rb))
  · cases e
def addD : D → D → List Cell → Option D := orF (onI0 fun i j => .int (i + j)) (orF addT (orF addL addS))
def subD : D → D → List Cell → Option D := onI0 fun i j => .int (i - j)
def mulI : D → D → List Cell → Option D := onI (fun i j => decide ((-18446744073709551616 < i ∧ i < 18446744073709551616) ∨ (-18446744073709551616 < j ∧ j < 18446744073709551616))) fun i j => .int (i * j)
def repL : D → D → List Cell → Option D := fun x y _ => match x, y with
  | .lst xs, .int k => if -1000000 ≤ k ∧ k ≤ 1000000 ∧ xs.length * k.toNat ≤ 16777216 then some (.lst (List.replicate k.toNat xs).flatten) else none
  | _, _ => none
def fdivD : D → D → List Cell → Option D := onI (fun _ j => decide (0 < j ∧ j < 340282366920938463463374607431768211456)) fun i j => .int (i / j)
def modD : D → D → List Cell → Option D := onI (fun _ j => decide (0 < j)) fun i j => .int (i % j)
def powD : D → D → List Cell → Option D := onI (fun i j => decide (0 ≤ j ∧ j ≤ 1000000 ∧ i.natAbs < 18446744073709551616)) fun i j => .int (i ^ j.toNat)
def shlD : D → D → List Cell → Option D := onI (fun i j => decide (0 ≤ j ∧ j ≤ 1000000 ∧ i.natAbs < 18446744073709551616)) fun i j => .int (i * 2 ^ j.toNat)
def shrD : D → D → List Cell → Option D := onI (fun _ j => decide (0 ≤ j)) fun i j => .int (i / 2 ^ j.toNat)
def andD : D → D → List Cell → Option D := onI0 fun i j => .int (Builtin.bitAnd i j)
theorem rep_int {F : Fb} {H : Hp} (i : Int) : Rep W F H (.int i) (.int i) := rfl
theorem rep_bl {F : Fb} {H : Hp} (i : Bool) : Rep W F H (.bl i) (.bl i) := rfl
theorem rep_str {F : Fb} {H : Hp} (i : Str) : Rep W F H (.str i) (.str i) := rfl
theorem rep_non {F : Fb} {H : Hp} : Rep W F H .non .non := rfl
theorem RepL.flat : ∀ (k : Nat) {F : Fb} {H : Hp} {ds : List D} {vs : List V}, RepL W F H ds vs → RepL W F H (List.replicate k ds).flatten (List.replicate k vs).flatten
  | 0, _, _, _, _, _ => rfl
  | k + 1, F, H, ds, vs, r => by
    rw [List.replicate_succ, List.replicate_succ, List.flatten_cons, List.flatten_cons]
    exact r.append (RepL.flat k r)
theorem rf_repL : RF W repL rRep := by
  intro F H g x y d v u Q c rx ry e k
  cases x <;> try (cases e; done)
  cases y <;> try (cases e; done)
  rename_i xs n
  simp only [repL] at e
  split at e
  · rename_i hc
    cases e
    obtain ⟨a, vs, rfl, ta, _, ra⟩ := rx
    refine ⟨a, n, vs, rfl, ry, ta, by omega, by omega, by rw [sizeLine_eq, ← ra.length]; exact hc.2.2, fun p np => ?_⟩
    exact k _ _ (keep_new np) (c.new np) (lst_new c np (RepL.flat _ ra))
  · cases e
def mulD : D → D → List Cell → Option D := orF mulI repL
variable {a b : Expr} {pos : Pos} {ma mb : M D}
theorem ev_add (hK : X.K = W.K) (ha : PE X a (tS W E ma)) (hb : PE X b (tS W E mb)) : PE X (.BinOp a .Add b pos) (tM W E (opM addD ma mb)) :=
  ev_op ((op_add).or ((op_catA).or ((op_cat).or (op_add_str)))) ((rf_int0 fun i j _ _ => rep_int _).or ((by rw [hK]; exact rf_addT : RF W addT (rCatA X.K)).or (rf_addL.or rf_addS))) ha hb
theorem ev_sub (ha : PE X a (tS W E ma)) (hb : PE X b (tS W E mb)) : PE X (.BinOp a .Sub b pos) (tM W E (opM subD ma mb)) := ev_op op_sub (rf_int0 fun _ _ _ _ => rep_int _) ha hb
theorem ev_mul (ha : PE X a (tS W E ma)) (hb : PE X b (tS W E mb)) : PE X (.BinOp a .Mult b pos) (tM W E (opM mulD ma mb)) :=
  ev_op (op_mul.or op_rep) ((rf_int (fun i j h => by have := of_decide_eq_true h; unfold CMul; omega) fun _ _ _ _ => rep_int _).or rf_repL) ha hb
theorem ev_fdiv (ha : PE X a (tS W E ma)) (hb : PE X b (tS W E mb)) : PE X (.BinOp a .FloorDiv b pos) (tM W E (opM fdivD ma mb)) :=
  ev_op op_fdivW (rf_int (fun i j h => by
    have := of_decide_eq_true h
    exact wide_div (b := 128) this.1 (by omega) (by decide) (by decide)) fun _ _ _ _ => rep_int _) ha hb
theorem ev_mod (ha : PE X a (tS W E ma)) (hb : PE X b (tS W E mb)) : PE X (.BinOp a .Mod b pos) (tM W E (opM modD ma mb)) := ev_op op_mod (rf_int (fun i j h => of_decide_eq_true h) fun _ _ _ _ => rep_int _) ha hb
theorem ev_pow (ha : PE X a (tS W E ma)) (hb : PE X b (tS W E mb)) : PE X (.BinOp a .Pow b pos) (tM W E (opM powD ma mb)) := ev_op op_pow (rf_int (fun i j h => (of_decide_eq_true h : 0 ≤ j ∧ j ≤ 1000000 ∧ i.natAbs < 18446744073709551616)) fun _ _ _ _ => rep_int _) ha hb
theorem ev_shl (ha : PE X a (tS W E ma)) (hb : PE X b (tS W E mb)) : PE X (.BinOp a .LShift b pos) (tM W E (opM shlD ma mb)) := ev_op op_shl (rf_int (fun i j h => (of_decide_eq_true h : 0 ≤ j ∧ j ≤ 1000000 ∧ i.natAbs < 18446744073709551616)) fun _ _ _ _ => rep_int _) ha hb
theorem ev_shr (ha : PE X a (tS W E ma)) (hb : PE X b (tS W E mb)) : PE X (.BinOp a .RShift b pos) (tM W E (opM shrD ma mb)) := ev_op op_shr (rf_int (fun i j h => of_decide_eq_true h) fun _ _ _ _ => rep_int _) ha hb
theorem ev_and_ (ha : PE X a (tS W E ma)) (hb : PE X b (tS W E mb)) : PE X (.BinOp a .BitAnd b pos) (tM W E (opM andD ma mb)) := ev_op op_and (rf_int0 fun _ _ _ _ => rep_int _) ha hb
/-- a written power -/
theorem op_pow_wide : OpR X (binaryOp .Pow) (rI (fun i j => 0 ≤ j ∧ (Builtin.Int.intBits i : Int) * j ≤ 2 ^ 27) fun i j => .int (i ^ j.toNat)) := opI fun _ _ _ _ _ _ _ hc q => PyProof.Rows.pow_int hc.1 hc.2 q
def powW : D → D → List Cell → Option D := onI (fun i j => decide (0 ≤ j ∧ (Builtin.Int.intBits i : Int) * j ≤ 2 ^ 27)) fun i j => .int (i ^ j.toNat)
theorem ev_powW (ha : PE X a (tS W E ma)) (hb : PE X b (tS W E mb)) : PE X (.BinOp a .Pow b pos) (tM W E (opM powW ma mb)) := ev_op op_pow_wide (rf_int (fun i j h => of_decide_eq_true h) fun _ _ _ _ => rep_int _) ha hb
theorem ev_con {e : Expr} {m : M D} {d : D} (h : PE X e (tM W E m)) (he : ∀ e g, m e g = .ok d g) : PE X e (tM W E (conM d)) := by
  have : m = conM d := by funext e g; exact he e g
  rw [← this]; exact h

/-! ### one operand -/
def unM (f : D → List Cell → Option D) (a : M D) : M D := fun e g => (a e g).bind fun x g1 => R.of (f x g1) g1
def negD : D → List Cell → Option D := fun x _ => match x with
  | .int i => some (.int (-i))
  | _ => none
theorem ev_neg (ha : PE X a (tS W E ma)) : PE X (.UnaryOp .USub a pos) (tM W E (unM negD ma)) := weakE (pe_un un_neg ha) fun σ H Q ⟨F, e, g, S, p⟩ => by
  refine ⟨F, e, g, S, (Post.bind p).mono fun x g1 F1 H1 x1 c1 p1 v r1 => ?_⟩
  obtain ⟨d, hd, k⟩ := post_of p1
  cases x <;> try (cases hd; done)
  rename_i i
  cases hd
  exact ⟨i, r1, k F1 H1 .refl c1 _ (rep_int _)⟩

/-! ### comparisons -/
def ltD : D → D → List Cell → Option D := onI0 fun i j => .bl (decide (i < j))
def leD : D → D → List Cell → Option D := onI0 fun i j => .bl (decide (i ≤ j))
def gtD : D → D → List Cell → Option D := onI0 fun i j => .bl (decide (j < i))
def geD : D → D → List Cell → Option D := onI0 fun i j => .bl (decide (j ≤ i))
def isND : D → D → List Cell → Option D := fun x y _ => match x, y with
  | .non, .non => some (.bl true)
  | _, .non => some (.bl false)
  | _, _ => none
def notND : D → D → List Cell → Option D := fun x y _ => match x, y with
  | .non, .non => some (.bl false)
  | _, .non => some (.bl true)
  | _, _ => none
mutual
/-- as the library's data -/
def toPd : D → PyData
  | .non => .none
  | .bl b => .bool b
  | .int i => .int i
  | .str x => .str x
  | .tup ds => .tuple (toPds ds)
  | .lst ds => .list (toPds ds)
  | _ => .none
def toPds : List D → List PyData
  | [] => []
  | d :: ds => toPd d :: toPds ds
end
mutual
/-- data that == and repr take, of a depth up to n -/
def okd : D → Nat → Bool
  | .non, _ => true
  | .bl _, _ => true
  | .int _, _ => true
  | .str x, _ => x.cps.all (· < 0x110000)
  | .tup ds, n => decide (0 < n) && okds ds (n - 1)
  | .lst ds, n => decide (0 < n) && okds ds (n - 1)
  | _, _ => false
def okds : List D → Nat → Bool
  | [], _ => true
  | d :: ds, n => okd d n && okds ds n
end
mutual
theorem dp_of {F : Fb} {H : Hp} : ∀ {d : D} {v : V} {n : Nat}, Look W F H d v → okd d n = true → Dp W.K H v (toPd d) ∧ (toPd d).canLay0 = true ∧ (toPd d).depth ≤ n
  | .non, v, n, h, _ => by
    cases (show v = .non from h)
    exact ⟨.non, by simp [toPd, PyData.canLay0], by simp [toPd, PyData.depth]⟩
  | .bl b, v, n, h, _ => by
    cases (show v = .bl b from h)
    exact ⟨.bl b, by simp [toPd, PyData.canLay0], by simp [toPd, PyData.depth]⟩
  | .int b, v, n, h, _ => by
    cases (show v = .int b from h)
    exact ⟨.int b, by simp [toPd, PyData.canLay0], by simp [toPd, PyData.depth]⟩
  | .str b, v, n, h, o => by
    cases (show v = .str b from h)
    refine ⟨.str b, ?_, by simp [toPd, PyData.depth]⟩
    simp only [toPd, PyData.canLay0]
    exact o
  | .tup ds, v, n, h, o => by
    obtain ⟨a, vs, rfl, t, r⟩ := h
    simp only [okd, Bool.and_eq_true, decide_eq_true_eq] at o
    obtain ⟨h1, h2, h3⟩ := dps_of r o.2
    refine ⟨.tup t.seq h1, by simp [toPd, PyData.canLay0, h2], ?_⟩
    simp only [toPd, PyData.depth]
    omega
  | .lst ds, v, n, h, o => by
    obtain ⟨a, vs, rfl, t, _, r⟩ := h
    simp only [okd, Bool.and_eq_true, decide_eq_true_eq] at o
    obtain ⟨h1, h2, h3⟩ := dps_of r o.2
    refine ⟨.lst (.of t) h1, by simp [toPd, PyData.canLay0, h2], ?_⟩
    simp only [toPd, PyData.depth]
    omega
  | .ob _ _, _, _, _, o => by simp [okd] at o
  | .g _, _, _, _, o => by simp [okd] at o
  | .sc _, _, _, _, o => by simp [okd] at o
  | .cl _, _, _, _, o => by simp [okd] at o
  | .dct _, _, _, _, o => by simp [okd] at o
  | .exc _ _, _, _, _, o => by simp [okd] at o
  | .da _, _, _, _, o => by simp [okd] at o
theorem dps_of {F : Fb} {H : Hp} : ∀ {ds : List D} {vs : List V} {n : Nat}, RepL W F H ds vs → okds ds n = true → DpAll W.K H vs (toPds ds) ∧ PyData.canLayAll0 (toPds ds) = true ∧ PyData.depthAll (toPds ds) ≤ n
  | [], vs, n, h, _ => by
    cases (show vs = [] from h)
    exact ⟨.nil, by simp [toPds, PyData.canLayAll0], by simp [toPds, PyData.depthAll]⟩
  | d :: ds, vs, n, h, o => by
    obtain ⟨v, r, rfl, h1, h2⟩ := h
    simp only [okds, Bool.and_eq_true] at o
    obtain ⟨p1, p2, p3⟩ := dp_of h1.look o.1
    obtain ⟨q1, q2, q3⟩ := dps_of h2 o.2
    refine ⟨.cons p1 q1, by simp [toPds, PyData.canLayAll0, p2, q2], ?_⟩
    simp only [toPds, PyData.depthAll]
    omega
end
theorem shaped_of {d : PyData} (h : d.canLay0 = true) (k : d.depth ≤ 64) : SeqAt.shaped d = true := by
  unfold SeqAt.shaped
  rw [h, decide_eq_true k]; rfl
def eqd (x y : D) : Bool := PyData.eqv (toPd x) (toPd y)
def eqP : D → D → List Cell → Option D := fun x y _ => if okd x 64 = true ∧ okd y 64 = true then some (.bl (eqd x y)) else none
def eqS : D → D → List Cell → Option D := fun x y _ => match x, y with
  | .str i, .str j => some (.bl (i == j))
  | _, _ => none
def neS : D → D → List Cell → Option D := fun x y _ => match x, y with
  | .str i, .str j => some (.bl (!(i == j)))
  | _, _ => none
theorem rf_eqS : RF W eqS rEq := by
  intro F H g x y d v u Q c rx ry e k
  cases x <;> try (cases e; done)
  cases y <;> try (cases e; done)
  cases e
  rename_i i j
  cases (show v = .str i from rx)
  cases (show u = .str j from ry)
  exact ⟨rfl, by rw [dec_str]; exact k H _ (fun _ _ h => h) c (rep_bl _)⟩
theorem rf_neS : RF W neS rNe := by
  intro F H g x y d v u Q c rx ry e k
  cases x <;> try (cases e; done)
  cases y <;> try (cases e; done)
  cases e
  rename_i i j
  cases (show v = .str i from rx)
  cases (show u = .str j from ry)
  exact ⟨rfl, by rw [dec_str]; exact k H _ (fun _ _ h => h) c (rep_bl _)⟩
def neP : D → D → List Cell → Option D := fun x y _ => if okd x 64 = true ∧ okd y 64 = true then some (.bl (!eqd x y)) else none
theorem rf_eqP : RF W eqP (rEqD W.K) := by
  intro F H g x y d v u Q c rx ry e k
  unfold eqP at e
  split at e
  · rename_i hc
    cases e
    obtain ⟨p1, p2, p3⟩ := dp_of rx hc.1
    obtain ⟨q1, q2, q3⟩ := dp_of ry hc.2
    exact ⟨_, _, p1, q1, shaped_of p2 p3, shaped_of q2 q3, k H _ (fun _ _ h => h) c (rep_bl _)⟩
  · cases e
theorem rf_neP : RF W neP (rNeD W.K) := by
  intro F H g x y d v u Q c rx ry e k
  unfold neP at e
  split at e
  · rename_i hc
    cases e
    obtain ⟨p1, p2, p3⟩ := dp_of rx hc.1
    obtain ⟨q1, q2, q3⟩ := dp_of ry hc.2
    exact ⟨_, _, p1, q1, shaped_of p2 p3, shaped_of q2 q3, k H _ (fun _ _ h => h) c (rep_bl _)⟩
  · cases e
theorem non_iff {F : Fb} {H : Hp} {d : D} {v : V} (h : Look W F H d v) : v = .non ↔ d = .non := by
  constructor
  · rintro rfl
    cases d with
    | non => rfl
    | bl b => cases (show V.non = V.bl b from h)
    | int b => cases (show V.non = V.int b from h)
    | str b => cases (show V.non = V.str b from h)
    | tup ds => obtain ⟨_, _, e, _⟩ := h; cases e
    | lst ds => obtain ⟨_, _, e, _⟩ := h; cases e
    | ob c d => obtain ⟨_, _, _, e, _⟩ := h; cases e
    | g n => obtain ⟨_, _, e⟩ := h; cases e
    | sc ns => obtain ⟨_, e, _⟩ := h; cases e
    | cl c => cases (show V.non = V.ref _ from h)
    | dct kvs => obtain ⟨_, e, _⟩ := h; cases e
    | exc c d => obtain ⟨_, _, _, e, _⟩ := h; cases e
    | da ds => obtain ⟨_, _, e, _⟩ := h; cases e
  · rintro rfl
    exact h
theorem rf_isN : RF W isND (fun x y H Q => y = .non ∧ Q (.bl (decide (x = .non))) H) := by
  intro F H g x y d v u Q c rx ry e k
  cases y <;> try (cases x <;> cases e; done)
  refine ⟨(non_iff ry).mpr rfl, ?_⟩
  have hv := non_iff rx
  cases x <;> cases e <;> first
    | (rw [decide_eq_true (hv.mpr rfl)]; exact k H _ (fun _ _ h => h) c (rep_bl _))
    | (rw [decide_eq_false (fun z => nomatch hv.mp z)]; exact k H _ (fun _ _ h => h) c (rep_bl _))
theorem rf_notN : RF W notND (fun x y H Q => y = .non ∧ Q (.bl (!decide (x = .non))) H) := by
  intro F H g x y d v u Q c rx ry e k
  cases y <;> try (cases x <;> cases e; done)
  refine ⟨(non_iff ry).mpr rfl, ?_⟩
  have hv := non_iff rx
  cases x <;> cases e <;> first
    | (rw [decide_eq_true (hv.mpr rfl)]; exact k H _ (fun _ _ h => h) c (rep_bl _))
    | (rw [decide_eq_false (fun z => nomatch hv.mp z)]; exact k H _ (fun _ _ h => h) c (rep_bl _))

/-- a comparison, its operator's rule given -/
structure CmpOk (W : Wd) (X : Cx) (op : CmpOp) (f : D → D → List Cell → Option D) : Prop where
  ex : ∃ r, OpR X (compareOp op) r ∧ RF W f r
  bl : ∀ x y g d, f x y g = some d → ∃ b, d = .bl b
  nin : op ≠ .In ∧ op ≠ .NotIn
theorem bl_I {z : Int → Int → Bool} : ∀ x y g d, onI0 (fun i j => .bl (z i j)) x y g = some d → ∃ b, d = .bl b := fun x y g d h => by
  cases x <;> try (cases h; done)
  cases y <;> try (cases h; done)
  cases h
  exact ⟨_, rfl⟩
theorem c_lt : CmpOk W X .Lt ltD := ⟨⟨_, op_lt, rf_int0 fun _ _ _ _ => rep_bl _⟩, bl_I, by decide⟩
theorem c_le : CmpOk W X .LtE leD := ⟨⟨_, op_le, rf_int0 fun _ _ _ _ => rep_bl _⟩, bl_I, by decide⟩
theorem c_gt : CmpOk W X .Gt gtD := ⟨⟨_, op_gt, rf_int0 fun _ _ _ _ => rep_bl _⟩, bl_I, by decide⟩
theorem c_ge : CmpOk W X .GtE geD := ⟨⟨_, op_ge, rf_int0 fun _ _ _ _ => rep_bl _⟩, bl_I, by decide⟩
theorem c_isN : CmpOk W X .Is isND := ⟨⟨_, op_isN, rf_isN⟩, fun x y g d h => by cases y <;> cases x <;> cases h <;> exact ⟨_, rfl⟩, by decide⟩
theorem c_notN : CmpOk W X .IsNot notND := ⟨⟨_, op_notN, rf_notN⟩, fun x y g d h => by cases y <;> cases x <;> cases h <;> exact ⟨_, rfl⟩, by decide⟩
def eqA : D → D → List Cell → Option D := orF eqS eqP
def neA : D → D → List Cell → Option D := orF neS neP
theorem bl_or {f f' : D → D → List Cell → Option D} (h : ∀ x y g d, f x y g = some d → ∃ b, d = .bl b) (h' : ∀ x y g d, f' x y g = some d → ∃ b, d = .bl b) : ∀ x y g d, orF f f' x y g = some d → ∃ b, d = .bl b := fun x y g d q => by
  unfold orF at q
  cases z : f x y g with
  | some d' => rw [z] at q; cases q; exact h x y g _ z
  | none => rw [z] at q; exact h' x y g d q
theorem c_eqP (hK : X.K = W.K) (hu : X.A.units + 64 < cLine) : CmpOk W X .Eq eqA := ⟨⟨_, op_eq.or (op_eqD hu), rf_eqS.or (by rw [hK]; exact rf_eqP)⟩, bl_or (fun x y g d h => by cases x <;> cases y <;> first | (cases h; done) | (cases h; exact ⟨_, rfl⟩)) (fun x y g d h => by unfold eqP at h; split at h <;> cases h; exact ⟨_, rfl⟩), by decide⟩
theorem c_neP (hK : X.K = W.K) (hu : X.A.units + 64 < cLine) : CmpOk W X .NotEq neA := ⟨⟨_, op_ne.or (op_neD hu), rf_neS.or (by rw [hK]; exact rf_neP)⟩, bl_or (fun x y g d h => by cases x <;> cases y <;> first | (cases h; done) | (cases h; exact ⟨_, rfl⟩)) (fun x y g d h => by unfold neP at h; split at h <;> cases h; exact ⟨_, rfl⟩), by decide⟩
theorem ev_cmp {op : CmpOp} {f : D → D → List Cell → Option D} (h : CmpOk W X op f) (ha : PE X a (tS W E ma)) (hb : PE X b (tS W E mb)) : PE X (.Compare a [op] [b] pos) (tM W E (opM f ma mb)) := by
  obtain ⟨r, ho, rf⟩ := h.ex
  exact weakE (pe_cmpR ho ha hb (nomark _ h.nin.1 h.nin.2)) fun _ _ _ h => r_op rf h
/-- a bool -/
def boolM (m : M D) : M Bool := fun e g => (m e g).bind fun d g1 => match d with
  | .bl b => .ok b g1
  | _ => .bad
theorem r_bool {m : M D} {σ : L2.St} {H : Hp} {Q : Bool → Hp → Prop} (h : L2.TT) (hh : tB W E (boolM m) σ H Q) : tM W E m σ H fun x H1 => ∃ c, x = .bl c ∧ Q c H1 := by
  obtain ⟨F, e, g, S, p⟩ := hh
  refine ⟨F, e, g, S, (Post.bind p).mono fun d g1 F1 H1 x1 c1 p1 v r1 => ?_⟩
  cases d <;> try exact p1.elim
  exact ⟨_, r1, p1 F1 H1 .refl c1⟩
theorem ev_cmpT {op : CmpOp} {f : D → D → List Cell → Option D} (h : CmpOk W X op f) (ha : PE X a (tS W E ma)) (hb : PE X b (tS W E mb)) : PT X (.Compare a [op] [b] pos) (tB W E (boolM (opM f ma mb))) := by
  obtain ⟨r, ho, rf⟩ := h.ex
  exact weakT (pt_cmpR ho ha hb (nomark _ h.nin.1 h.nin.2)) fun σ H Q hh => r_op rf (r_bool (fun _ _ _ => True) hh)
/-- a call, a name .. as a test -/
theorem ev_test {e : Expr} {m : M D} (h : PE X e (tM W E m)) (he : ∀ whole, isTrue e X.env whole = (do let v ← whole; standAt e.pos; holding [v] (truthy v)) := by intro _; rfl) : PT X e (tB W E (boolM m)) :=
  weakT (pt_val h he) fun σ H Q hh => r_bool (fun _ _ _ => True) hh

/-! ### and, or, not, if else -/
def andB (a b : M Bool) : M Bool := fun e g => (a e g).bind fun x g1 => if x = true then b e g1 else .ok false g1
def orB (a b : M Bool) : M Bool := fun e g => (a e g).bind fun x g1 => if x = true then .ok true g1 else b e g1
def notB (a : M Bool) : M Bool := fun e g => (a e g).bind fun x g1 => .ok (!x) g1
variable {na nb : M Bool} {rest : List Expr}
theorem evw_and1 (ha : PT X a (tB W E na)) : PW X (.BoolOp .And [a] pos) (tB W E na) := pw_and1 ha
theorem evw_or1 (ha : PT X a (tB W E na)) : PW X (.BoolOp .Or [a] pos) (tB W E na) := pw_or1 ha
theorem evw_and (ha : PT X a (tB W E na)) (hb : PW X (.BoolOp .And (b :: rest) pos) (tB W E nb)) : PW X (.BoolOp .And (a :: b :: rest) pos) (tB W E (andB na nb)) :=
  weakW (pw_and ha hb) fun σ H Q ⟨F, e, g, S, p⟩ => by
    refine ⟨F, e, g, S, (Post.bind p).mono fun x g1 F1 H1 x1 c1 p1 => ?_⟩
    cases x with
    | true => exact ⟨F1, e, g1, S.step x1 c1, p1⟩
    | false => exact p1 F1 H1 .refl c1
theorem evw_or (ha : PT X a (tB W E na)) (hb : PW X (.BoolOp .Or (b :: rest) pos) (tB W E nb)) : PW X (.BoolOp .Or (a :: b :: rest) pos) (tB W E (orB na nb)) :=
  weakW (pw_or ha hb) fun σ H Q ⟨F, e, g, S, p⟩ => by
    refine ⟨F, e, g, S, (Post.bind p).mono fun x g1 F1 H1 x1 c1 p1 => ?_⟩
    cases x with
    | true => exact p1 F1 H1 .refl c1
    | false => exact ⟨F1, e, g1, S.step x1 c1, p1⟩
theorem evt_not (ha : PT X a (tB W E na)) : PT X (.UnaryOp .Not a pos) (tB W E (notB na)) := weakT (pt_not ha) fun σ H Q ⟨F, e, g, S, p⟩ =>
  ⟨F, e, g, S, (Post.bind p).mono fun x g1 F1 H1 x1 c1 p1 => p1 F1 H1 .refl c1⟩
/-- .. as values -/
def andV (a b : M D) : M D := fun e g => (boolM a e g).bind fun x g1 => if x = true then b e g1 else .ok (.bl false) g1
def orV (a b : M D) : M D := fun e g => (boolM a e g).bind fun x g1 => if x = true then .ok (.bl true) g1 else b e g1
def notV (a : M D) : M D := fun e g => (boolM a e g).bind fun x g1 => .ok (.bl (!x)) g1
theorem r_boolB {m : M D} {f : Bool → List Cell → R D} {F : Fb} {H : Hp} {e : Env} {g : List Cell} {k : D → List Cell → Fb → Hp → Prop} (p : Post W E F H ((boolM m e g).bind f) k) :
    Post W E F H (m e g) fun d g1 F1 H1 => ∃ c, d = .bl c ∧ Post W E F1 H1 (f c g1) k := by
  refine (Post.bind (Post.bind p)).mono fun d g1 F1 H1 x1 c1 p1 => ?_
  cases d <;> try exact p1.elim
  exact ⟨_, rfl, p1 F1 H1 .refl c1⟩
theorem ev_one {op} (h : PE X a (tM W E ma)) : PE X (.BoolOp op [a] pos) (tM W E ma) := pe_one h
theorem ev_and (ha : PE X a (tM W E ma)) (hb : PE X (.BoolOp .And (b :: rest) pos) (tM W E mb)) : PE X (.BoolOp .And (a :: b :: rest) pos) (tM W E (andV ma mb)) :=
  weakE (pe_and ha hb) fun σ H Q ⟨F, e, g, S, p⟩ => by
    refine ⟨F, e, g, S, (r_boolB p).mono fun d g1 F1 H1 x1 c1 p1 v r => ?_⟩
    obtain ⟨c, rfl, p1⟩ := p1
    refine ⟨c, r, ?_⟩
    cases c with
    | true => exact ⟨F1, e, g1, S.step x1 c1, p1⟩
    | false => exact p1 F1 H1 .refl c1 _ (rep_bl _)
theorem ev_or (ha : PE X a (tM W E ma)) (hb : PE X (.BoolOp .Or (b :: rest) pos) (tM W E mb)) : PE X (.BoolOp .Or (a :: b :: rest) pos) (tM W E (orV ma mb)) :=
  weakE (pe_or ha hb) fun σ H Q ⟨F, e, g, S, p⟩ => by
    refine ⟨F, e, g, S, (r_boolB p).mono fun d g1 F1 H1 x1 c1 p1 v r => ?_⟩
    obtain ⟨c, rfl, p1⟩ := p1
    refine ⟨c, r, ?_⟩
    cases c with
    | true => exact p1 F1 H1 .refl c1 _ (rep_bl _)
    | false => exact ⟨F1, e, g1, S.step x1 c1, p1⟩
theorem ev_not (ha : PE X a (tM W E ma)) : PE X (.UnaryOp .Not a pos) (tM W E (notV ma)) :=
  weakE (pe_not ha) fun σ H Q ⟨F, e, g, S, p⟩ => by
    refine ⟨F, e, g, S, (r_boolB p).mono fun d g1 F1 H1 x1 c1 p1 v r => ?_⟩
    obtain ⟨c, rfl, p1⟩ := p1
    exact ⟨c, r, p1 F1 H1 .refl c1 _ (rep_bl _)⟩
def ifV (t : M Bool) (a b : M D) : M D := fun e g => (t e g).bind fun x g1 => if x = true then a e g1 else b e g1
theorem ev_if {c : Expr} (hc : PT X c (tB W E na)) (ha : PE X a (tM W E ma)) (hb : PE X b (tM W E mb)) : PE X (.IfExp c a b pos) (tM W E (ifV na ma mb)) :=
  weakE (pe_ifExp hc ha hb) fun σ H Q ⟨F, e, g, S, p⟩ => by
    refine ⟨F, e, g, S, (Post.bind p).mono fun x g1 F1 H1 x1 c1 p1 => ?_⟩
    cases x with
    | true => exact ⟨F1, e, g1, S.step x1 c1, p1⟩
    | false => exact ⟨F1, e, g1, S.step x1 c1, p1⟩
/-- a < b < c -/
def chM (f f' : D → D → List Cell → Option D) (a b c : M D) : M D := fun e g => (a e g).bind fun x g1 => (b e g1).bind fun y g2 => (R.of (f x y g2) g2).bind fun z g3 => match z with
  | .bl true => (c e g3).bind fun w g4 => R.of (f' y w g4) g4
  | .bl false => .ok (.bl false) g3
  | _ => .bad
variable {c : Expr} {mc : M D}
theorem r_chain {f f' : D → D → List Cell → Option D} {r r' : R2} (rf : RF W f r) (rf' : RF W f' r') {σ : L2.St} {H : Hp} {Q : VK} (h : tM W E (chM f f' ma mb mc) σ H Q) : tChain r r' (tS W E ma) (tS W E mb) (tS W E mc) σ H Q := by
  obtain ⟨F, e, g, S, p⟩ := h
  refine ⟨F, e, g, S, (Post.bind p).mono fun x g1 F1 H1 x1 c1 p1 v r1 => ?_⟩
  refine ⟨F1, e, g1, S.step x1 c1, (Post.bind p1).mono fun y g2 F2 H2 x2 c2 p2 u r2 => ?_⟩
  obtain ⟨d, hd, k⟩ := post_of (Post.bind p2)
  refine rf F2 H2 g2 x y d v u _ c2 (r1.up x2) r2 hd fun H' w kp cc r => ?_
  have p3 := k F2 H' (.all kp) cc
  cases d <;> try exact p3.elim
  rename_i bb
  refine ⟨bb, r, ?_⟩
  cases bb with
  | false => exact p3 F2 H' .refl cc _ (rep_bl _)
  | true =>
    refine ⟨F2, e, g2, (S.step x1 c1).step (x2.trans (.all kp)) cc, (Post.bind p3).mono fun z g4 F4 H4 x4 c4 p4 t r4 => ?_⟩
    obtain ⟨d', hd', k'⟩ := post_of p4
    exact rf' F4 H4 g4 y z d' u t Q c4 ((r2.up (.all kp)).up x4) r4 hd' fun H5 w5 kp5 c5 r5 => k' F4 H5 (.all kp5) c5 w5 r5
end
end Ev

/-! Ev2: argument lists, displays, subscripts, slices, built-in calls. -/
namespace Ev
open PySem PySem.Spec PyProof.Rows L2
section
variable {W : Wd} {E : XK} {X : Cx} {a b c : Expr} {pos : Pos} {ma mb mc : M D} {es : List Expr} {mr : M (List D)} {na nb : M Bool}

theorem ev_chain {op op' : CmpOp} {f f' : D → D → List Cell → Option D} (h : CmpOk W X op f) (h' : CmpOk W X op' f') (ha : PE X a (tS W E ma)) (hb : PE X b (tS W E mb)) (hc : PE X c (tS W E mc))
    (hm : lastMarks [op, op'] [b, c] = false := by with_unfolding_all rfl) : PE X (.Compare a [op, op'] [b, c] pos) (tM W E (chM f f' ma mb mc)) := by
  obtain ⟨r, ho, rf⟩ := h.ex
  obtain ⟨r', ho', rf'⟩ := h'.ex
  exact weakE (pe_chain ho ho' ha hb hc hm) fun _ _ _ h => r_chain rf rf' h
theorem evt_chain {op op' : CmpOp} {f f' : D → D → List Cell → Option D} (h : CmpOk W X op f) (h' : CmpOk W X op' f') (ha : PE X a (tS W E ma)) (hb : PE X b (tS W E mb)) (hc : PE X c (tS W E mc))
    (hm : lastMarks [op, op'] [b, c] = false := by with_unfolding_all rfl) : PT X (.Compare a [op, op'] [b, c] pos) (tB W E (boolM (chM f f' ma mb mc))) := by
  obtain ⟨r, ho, rf⟩ := h.ex
  obtain ⟨r', ho', rf'⟩ := h'.ex
  exact weakT (pt_chain ho ho' ha hb hc hm) fun _ _ _ h => r_chain rf rf' (r_bool (fun _ _ _ => True) h)

/-! ### argument lists -/
def nilM : M (List D) := fun _ g => .ok [] g
def consM (a : M D) (r : M (List D)) : M (List D) := fun e g => (a e g).bind fun x g1 => (r e g1).bind fun xs g2 => .ok (x :: xs) g2
theorem ea_nil : PA X [] (tL W E nilM) := weakA pa_nil fun σ H Q ⟨F, e, g, S, p⟩ => p F H .refl S.cells [] rfl
theorem ea_cons (ha : PE X a (tM W E ma)) (hr : PA X es (tL W E mr)) (hs : starEach (a :: es) X.env = (false, eval a X.env) :: starEach es X.env := by rfl) : PA X (a :: es) (tL W E (consM ma mr)) :=
  weakA (pa_cons ha hr hs) fun σ H Q ⟨F, e, g, S, p⟩ => by
    refine ⟨F, e, g, S, (Post.bind p).mono fun x g1 F1 H1 x1 c1 p1 v r1 => ?_⟩
    refine ⟨F1, e, g1, S.step x1 c1, (Post.bind p1).mono fun y g2 F2 H2 x2 c2 p2 vs r2 => ?_⟩
    exact p2 F2 H2 .refl c2 (v :: vs) ⟨v, vs, rfl, r1.up x2.up, r2⟩
theorem es_nil : PA X [] (tLs W E nilM) := weakA pa_nil fun σ H Q ⟨F, e, g, S, p⟩ => p F H .refl S.cells [] rfl
theorem es_cons (ha : PE X a (tS W E ma)) (hr : PA X es (tLs W E mr)) (hs : starEach (a :: es) X.env = (false, eval a X.env) :: starEach es X.env := by rfl) : PA X (a :: es) (tLs W E (consM ma mr)) :=
  weakA (pa_cons ha hr hs) fun σ H Q ⟨F, e, g, S, p⟩ => by
    refine ⟨F, e, g, S, (Post.bind p).mono fun x g1 F1 H1 x1 c1 p1 v r1 => ?_⟩
    refine ⟨F1, e, g1, S.step x1 c1, (Post.bind p1).mono fun y g2 F2 H2 x2 c2 p2 vs r2 => ?_⟩
    exact p2 F2 H2 .refl c2 (v :: vs) ⟨v, vs, rfl, r1.up x2, r2⟩

/-! ### displays -/
def tupM (m : M (List D)) : M D := fun e g => (m e g).bind fun ds g1 => if ds.length ≤ 16777216 then .ok (.tup ds) g1 else .bad
def fitM (m : M (List D)) : M (List D) := fun e g => (m e g).bind fun ds g1 => if ds.length ≤ 16777216 then .ok ds g1 else .bad
/-- a new list as a value -/
def valM (m : M (List D)) : M D := fun e g => (m e g).bind fun ds g1 => .ok (.lst ds) g1
theorem ev_tup {x1} (h : PA X es (tL W E mr)) : PE X (.Tuple es x1 pos) (tM W E (tupM mr)) := weakE (pe_tup h) fun σ H Q ⟨F, e, g, S, p⟩ => by
  refine ⟨F, e, g, S, (Post.bind p).mono fun ds g1 F1 H1 x1 c1 p1 vs r => ?_⟩
  split at p1
  · rename_i hl
    exact ⟨by rw [sizeLine_eq, ← r.length]; exact hl, fun q nq => p1 F1 _ (Xe.new nq) (c1.new nq) _ (tup_new c1 nq r)⟩
  · exact p1.elim
theorem ev_tupF {x1} (h : PA X es (tL W E mr)) : PE X (.List es x1) (tF W E (fitM mr)) := weakE (pe_lst h) fun σ H Q ⟨F, e, g, S, p⟩ => by
  refine ⟨F, e, g, S, (Post.bind p).mono fun ds g1 F1 H1 x1 c1 p1 vs r => ?_⟩
  split at p1
  · rename_i hl
    refine ⟨by rw [sizeLine_eq, ← r.length]; exact hl, fun q nq => p1 F1 H1 .refl c1 q vs nq r⟩
  · exact p1.elim
/-- a new list, as a value -/
theorem ev_val (h : PE X a (tF W E mr)) : PE X a (tM W E (valM mr)) := weakE h fun σ H Q ⟨F, e, g, S, p⟩ => by
  refine ⟨F, e, g, S, (Post.bind p).mono fun ds g1 F1 H1 x1 c1 p1 q vs nq r => ?_⟩
  exact p1 F1 _ (Xe.new nq) (c1.new nq) _ (lst_new c1 nq r)

/-! ### subscripts -/
def ixD : D → D → List Cell → Option D := fun x y g => match x, y with
  | .tup ds, .int i => atI ds i
  | .lst ds, .int i => atI ds i
  | .sc ns, .int i => (atI ns i).map .int
  | .g n, .int i => match g[n]? with
    | some (.lst ds) => atI ds i
    | _ => none
  | .str z, .int i => if z.length ≤ 16777216 then (atI z.cps.toList i).map fun c => .str ⟨#[c]⟩ else none
  | _, _ => none
theorem RepL.atI {F : Fb} {H : Hp} {ds : List D} {vs : List V} (r : RepL W F H ds vs) {i : Int} {d : D} (h : L2.atI ds i = some d) : ∃ v, L2.atI vs i = some v ∧ Rep W F H d v := by
  unfold L2.atI at h ⊢
  rw [← r.length]
  cases q : ixN ds.length i with
  | none => rw [q] at h; cases h
  | some j =>
    rw [q] at h
    exact r.get h
theorem atI_map {ns : List Int} {i k : Int} (h : atI ns i = some k) : atI (ns.map V.int) i = some (.int k) := by
  unfold atI at h ⊢
  rw [List.length_map]
  cases q : ixN ns.length i with
  | none => rw [q] at h; cases h
  | some j =>
    rw [q] at h
    simp only [Option.bind_some] at h ⊢
    rw [List.getElem?_map, h]; rfl
theorem rf_ix : RF W ixD (rIx W.K) := by
  intro F H g x y d v u Q c rx ry e k
  cases y <;> try (cases x <;> cases e; done)
  rename_i i
  cases x <;> try (cases e; done)
  · rename_i z
    simp only [ixD] at e
    split at e
    · rename_i hl
      cases q : atI z.cps.toList i with
      | none => rw [q] at e; cases e
      | some ch =>
        rw [q] at e
        cases e
        exact .inr (.inr ⟨z, i, ch, rx, ry, by rw [sizeLine_eq]; exact hl, q, k H _ (fun _ _ h => h) c (rep_str _)⟩)
    · cases e
  · rename_i ds
    obtain ⟨p, vs, rfl, t, r⟩ := rx
    obtain ⟨w, h1, h2⟩ := r.atI e
    exact .inr (.inl ⟨p, vs, i, w, rfl, ry, t.seq, h1, k H _ (fun _ _ h => h) c h2⟩)
  · rename_i ds
    obtain ⟨p, vs, rfl, t, _, r⟩ := rx
    obtain ⟨w, h1, h2⟩ := r.atI e
    exact .inl ⟨p, vs, i, w, rfl, ry, .of t, h1, k H _ (fun _ _ h => h) c h2⟩
  · rename_i n
    simp only [ixD] at e
    split at e
    · rename_i ds hg
      obtain ⟨p, hp, rfl⟩ := rx
      obtain ⟨vs, t, r⟩ := c.cel n p _ hp hg
      obtain ⟨w, h1, h2⟩ := r.atI e
      exact .inl ⟨p, vs, i, w, rfl, ry, .of t, h1, k H _ (fun _ _ h => h) c h2⟩
    · cases e
  · rename_i ns
    obtain ⟨p, rfl, t⟩ := rx
    simp only [ixD] at e
    cases q : atI ns i with
    | none => rw [q] at e; cases e
    | some m =>
      rw [q] at e
      cases e
      exact .inl ⟨p, _, i, _, rfl, ry, t.seq, atI_map q, k H _ (fun _ _ h => h) c (rep_int _)⟩
theorem ev_ix (hK : X.K = W.K) (ha : PE X a (tS W E ma)) (hb : PE X b (tS W E mb)) (hs : PlainIx b := by intro _ _; rfl) : PE X (.Subscript a b pos) (tM W E (opM ixD ma mb)) :=
  weakE (pe_ix ix_seq ha hb hs) fun _ _ _ h => r_op (by rw [hK]; exact rf_ix) h

/-! ### slices -/
def noP : M (Option Int) := fun _ g => .ok none g
def atP (m : M D) : M (Option Int) := fun e g => (m e g).bind fun d g1 => match d with
  | .int i => .ok (some i) g1
  | _ => .bad
def tO (W : Wd) (E : XK) (m : M (Option Int)) : TO := fun σ H Q => ∃ F e g, St W F e g σ H ∧ Post W E F H (m e g) fun o _ _ H' => Q o H'
theorem eo_none : PO X none (tO W E noP) := ⟨fun pins s σ H Q I ⟨F, e, g, S, p⟩ => po_none.run pins s σ H Q I (p F H .refl S.cells)⟩
theorem eo_some (ha : PE X a (tS W E ma)) : PO X (some a) (tO W E (atP ma)) := ⟨fun pins s σ H Q I ⟨F, e, g, S, p⟩ => (po_some ha).run pins s σ H Q I (by
  refine ⟨F, e, g, S, (Post.bind p).mono fun d g1 F1 H1 x1 c1 p1 v r => ?_⟩
  cases d <;> try exact p1.elim
  exact ⟨_, r, p1 F1 H1 .refl c1⟩)⟩
def cutL {α : Type} (xs : List α) (lo hi : Option Int) : List α := (xs.drop (HT.sIx xs.length 0 lo)).take (HT.sIx xs.length xs.length hi - HT.sIx xs.length 0 lo)
def cutD (x : D) (lo hi : Option Int) : Option D := match x with
  | .tup ds => some (.tup (cutL ds lo hi))
  | .lst ds => some (.lst (cutL ds lo hi))
  | _ => none
def slM (x : M D) (lo hi : M (Option Int)) : M D := fun e g => (x e g).bind fun d g1 => (lo e g1).bind fun l g2 => (hi e g2).bind fun h g3 => R.of (cutD d l h) g3
theorem RepL.cut {F : Fb} {H : Hp} {ds : List D} {vs : List V} (r : RepL W F H ds vs) (lo hi : Option Int) : RepL W F H (cutL ds lo hi) (cutV vs lo hi) := by
  unfold cutL cutV
  rw [r.length]
  exact (r.drop _).take _
variable {lo hi : Option Expr} {ml mh : M (Option Int)} {p2 : Pos}
theorem ev_slice (hK : X.K = W.K) (ha : PE X a (tS W E ma)) (hl : PO X lo (tO W E ml)) (hh : PO X hi (tO W E mh)) : PE X (.Subscript a (.Slice lo hi none p2) pos) (tM W E (slM ma ml mh)) :=
  weakE (pe_slice (sl_tupA.or sl_list) ha hl hh) fun σ H Q ⟨F, e, g, S, p⟩ => by
    refine ⟨F, e, g, S, (Post.bind p).mono fun d g1 F1 H1 x1 c1 p1 v r => ?_⟩
    refine ⟨F1, e, g1, S.step x1 c1, (Post.bind p1).mono fun l g2 F2 H2 x2 c2 p2 => ?_⟩
    refine ⟨F2, e, g2, (S.step x1 c1).step x2 c2, (Post.bind p2).mono fun h g3 F3 H3 x3 c3 p3 => ?_⟩
    obtain ⟨d', hd, k⟩ := post_of p3
    have r' := (r.up x2).up x3
    cases d <;> try (cases hd; done)
    · rename_i ds
      cases hd
      obtain ⟨q, vs, rfl, t, rr⟩ := r'
      refine .inl ⟨q, vs, rfl, by rw [hK]; exact t.seq, fun hw => ?_, fun _ p np => ?_⟩
      · have e1 : cutL ds l h = ds := by
          unfold cutL
          rw [rr.length, hw.1, hw.2, List.drop_zero, Nat.sub_zero, ← rr.length, List.take_length]
        rw [e1] at k
        exact k F3 H3 .refl c3 _ ⟨q, vs, rfl, t, rr⟩
      · exact k F3 _ (Xe.new np) (c3.new np) _ (tup_new c3 np (rr.cut l h))
    · rename_i ds
      cases hd
      obtain ⟨q, vs, rfl, t, _, rr⟩ := r'
      exact .inr ⟨q, vs, rfl, .of t, fun p np => k F3 _ (Xe.new np) (c3.new np) _ (lst_new c3 np (rr.cut l h))⟩

/-! ### calls of built-ins -/
def bltM (f : List D → List Cell → Option D) (m : M (List D)) : M D := fun e g => (m e g).bind fun ds g1 => R.of (f ds g1) g1
def RFn (W : Wd) (f : List D → List Cell → Option D) (r : List V → Hp → VK → Prop) : Prop := ∀ (F : Fb) (H : Hp) (g : List Cell) (ds : List D) (d : D) (vs : List V) (Q : VK), Cells W F H g → LookL W F H ds vs → f ds g = some d →
  (∀ H' w, (∀ a o, H a = some o → H' a = some o) → Cells W F H' g → Rep W F H' d w → Q w H') → r vs H Q
theorem r_blt {f : List D → List Cell → Option D} {r : List V → Hp → VK → Prop} (rf : RFn W f r) {σ : L2.St} {H : Hp} {Q : VK} (h : tM W E (bltM f mr) σ H Q) : tCB r (tLs W E mr) σ H Q := by
  obtain ⟨F, e, g, S, p⟩ := h
  refine ⟨F, e, g, S, (Post.bind p).mono fun ds g1 F1 H1 x1 c1 p1 vs rr => ?_⟩
  obtain ⟨d, hd, k⟩ := post_of p1
  exact rf F1 H1 g1 ds d vs Q c1 rr hd fun H' w kp c r => k F1 H' (.all kp) c w r
variable {x : Str} {p1 : Pos} {id T : String} {r : List V → Hp → VK → Prop} {f : List D → List Cell → Option D}
/-- a built-in function by its name -/
structure BltOk (W : Wd) (X : Cx) (id : String) (f : List D → List Cell → Option D) : Prop where
  ex : ∃ r, CallR X (.builtin id) r ∧ RFn W f r
structure TyOk (W : Wd) (X : Cx) (T : String) (f : List D → List Cell → Option D) : Prop where
  ex : ∃ r, CallR X (.type T) r ∧ RFn W f r
theorem ev_blt (h : BltOk W X id f) (hg : Gl X x) (hm : X.mg x = none) (hv : bootBuiltins x = some (.builtin id)) (ha : PA X (a :: es) (tLs W E mr)) (hn : x ≠ "__name__" := by decide) (hdb : (x == ("__debug__" : Str)) = false := by decide)
    (he : starEach (a :: es) X.env = (false, eval a X.env) :: starEach es X.env := by rfl) (hpl : (backTo pos (starEach es X.env)).any (·.1) = false := by rfl) : PE X (.Call (.Name x p1) (a :: es) [] pos) (tM W E (bltM f mr)) := by
  obtain ⟨r, hr, rf⟩ := h.ex
  exact weakE (pe_callB hr hg hm hv ha hn hdb he hpl) fun _ _ _ h => r_blt rf h
theorem ev_ty (h : TyOk W X T f) (hg : Gl X x) (hm : X.mg x = none) (hv : bootBuiltins x = some (.type T)) (ha : PA X (a :: es) (tLs W E mr)) (hn : x ≠ "__name__" := by decide) (hdb : (x == ("__debug__" : Str)) = false := by decide)
    (he : starEach (a :: es) X.env = (false, eval a X.env) :: starEach es X.env := by rfl) (hpl : (backTo pos (starEach es X.env)).any (·.1) = false := by rfl) : PE X (.Call (.Name x p1) (a :: es) [] pos) (tM W E (bltM f mr)) := by
  obtain ⟨r, hr, rf⟩ := h.ex
  exact weakE (pe_callTy hr hg hm hv ha hn hdb he hpl) fun _ _ _ h => r_blt rf h
theorem look1 {F : Fb} {H : Hp} {d : D} {vs : List V} (h : LookL W F H [d] vs) : ∃ v, vs = [v] ∧ Look W F H d v := by
  obtain ⟨v, r, rfl, h1, h2⟩ := h
  cases (show r = [] from h2)
  exact ⟨v, rfl, h1⟩
theorem look2 {F : Fb} {H : Hp} {d e : D} {vs : List V} (h : LookL W F H [d, e] vs) : ∃ v u, vs = [v, u] ∧ Look W F H d v ∧ Look W F H e u := by
  obtain ⟨v, r, rfl, h1, h2⟩ := h
  obtain ⟨u, rfl, h3⟩ := look1 h2
  exact ⟨v, u, rfl, h1, h3⟩
def lenF : List D → List Cell → Option D := fun ds g => match ds with
  | [.tup xs] => some (.int xs.length)
  | [.lst xs] => some (.int xs.length)
  | [.sc xs] => some (.int xs.length)
  | [.str z] => if z.length ≤ 16777216 then some (.int z.length) else none
  | [.g n] => match g[n]? with
    | some (.lst xs) => some (.int xs.length)
    | _ => none
  | _ => none
theorem b_len (hK : X.K = W.K) : BltOk W X "len" lenF := by
  refine ⟨_, call_len, ?_⟩
  rw [hK]
  intro F H g ds d vs Q c rr e k
  cases ds with
  | nil => cases e
  | cons y ys =>
    cases ys with
    | cons _ _ => cases y <;> cases e
    | nil =>
      obtain ⟨v, rfl, rv⟩ := look1 rr
      cases y <;> try (cases e; done)
      · rename_i z
        simp only [lenF] at e
        split at e
        · rename_i hl
          cases e
          cases (show v = .str z from rv)
          exact ⟨_, z.length, rfl, ⟨by rw [sizeLine_eq]; exact hl, rfl⟩, k H _ (fun _ _ h => h) c (rep_int _)⟩
        · cases e
      · rename_i xs
        cases e
        obtain ⟨p, us, rfl, t, r⟩ := rv
        exact ⟨_, xs.length, rfl, .inr ⟨us, t.seq, r.length⟩, k H _ (fun _ _ h => h) c (rep_int _)⟩
      · rename_i xs
        cases e
        obtain ⟨p, us, rfl, t, _, r⟩ := rv
        exact ⟨_, xs.length, rfl, .inl ⟨us, .of t, r.length⟩, k H _ (fun _ _ h => h) c (rep_int _)⟩
      · rename_i n
        simp only [lenF] at e
        split at e
        · rename_i xs hg
          cases e
          obtain ⟨p, hp, rfl⟩ := rv
          obtain ⟨us, t, r⟩ := c.cel n p _ hp hg
          exact ⟨_, xs.length, rfl, .inl ⟨us, .of t, r.length⟩, k H _ (fun _ _ h => h) c (rep_int _)⟩
        · cases e
      · rename_i xs
        cases e
        obtain ⟨p, rfl, t⟩ := rv
        exact ⟨_, xs.length, rfl, .inl ⟨_, t.seq, (List.length_map ..).symm⟩, k H _ (fun _ _ h => h) c (rep_int _)⟩
def absF : List D → List Cell → Option D := fun ds _ => match ds with
  | [.int i] => some (.int (if i < 0 then -i else i))
  | _ => none
theorem b_abs : BltOk W X "abs" absF := by
  refine ⟨_, call_abs, ?_⟩
  intro F H g ds d vs Q c rr e k
  cases ds with
  | nil => cases e
  | cons y ys =>
    cases ys with
    | cons _ _ => cases y <;> cases e
    | nil =>
      obtain ⟨v, rfl, rv⟩ := look1 rr
      cases y <;> try (cases e; done)
      cases e
      rename_i i
      cases (show v = .int i from rv)
      exact ⟨i, rfl, k H _ (fun _ _ h => h) c (rep_int _)⟩
def intsOf : List D → Option (List Int)
  | [] => some []
  | .int i :: r => (intsOf r).map (i :: ·)
  | _ => none
theorem intsOf_eq : ∀ {ds : List D} {ns : List Int}, intsOf ds = some ns → ds = ns.map .int
  | [], ns, h => by cases h; rfl
  | d :: ds, ns, h => by
    cases d <;> try (cases h; done)
    rename_i i
    simp only [intsOf] at h
    cases q : intsOf ds with
    | none => rw [q] at h; cases h
    | some ms =>
      rw [q] at h
      cases h
      rw [intsOf_eq q]; rfl
@[simp] theorem intsOf_map (ns : List Int) : intsOf (ns.map .int) = some ns := by
  induction ns with
  | nil => rfl
  | cons n ns ih => simp only [List.map_cons, intsOf, ih, Option.map_some]
def maxI (n : Int) (ns : List Int) : Int := ns.foldl max n
def minI (n : Int) (ns : List Int) : Int := ns.foldl min n
theorem maxI_ge : ∀ (ns : List Int) (n : Int), n ≤ maxI n ns ∧ ∀ y ∈ ns, y ≤ maxI n ns
  | [], n => ⟨Int.le_refl _, fun _ h => by cases h⟩
  | m :: ns, n => by
    obtain ⟨h1, h2⟩ := maxI_ge ns (max n m)
    refine ⟨?_, fun y hy => ?_⟩
    · show n ≤ maxI (max n m) ns
      omega
    · show y ≤ maxI (max n m) ns
      rcases List.mem_cons.mp hy with rfl | hy
      · omega
      · exact h2 y hy
theorem maxI_mem : ∀ (ns : List Int) (n : Int), maxI n ns = n ∨ maxI n ns ∈ ns
  | [], n => .inl rfl
  | m :: ns, n => by
    show maxI (max n m) ns = n ∨ maxI (max n m) ns ∈ m :: ns
    rcases maxI_mem ns (max n m) with h | h
    · rw [h]
      by_cases q : n ≤ m
      · right
        rw [show max n m = m by omega]
        exact List.mem_cons_self
      · left; omega
    · exact .inr (List.mem_cons_of_mem _ h)
theorem minI_le : ∀ (ns : List Int) (n : Int), minI n ns ≤ n ∧ ∀ y ∈ ns, minI n ns ≤ y
  | [], n => ⟨Int.le_refl _, fun _ h => by cases h⟩
  | m :: ns, n => by
    obtain ⟨h1, h2⟩ := minI_le ns (min n m)
    refine ⟨?_, fun y hy => ?_⟩
    · show minI (min n m) ns ≤ n
      omega
    · show minI (min n m) ns ≤ y
      rcases List.mem_cons.mp hy with rfl | hy
      · omega
      · exact h2 y hy
theorem minI_mem : ∀ (ns : List Int) (n : Int), minI n ns = n ∨ minI n ns ∈ ns
  | [], n => .inl rfl
  | m :: ns, n => by
    show minI (min n m) ns = n ∨ minI (min n m) ns ∈ m :: ns
    rcases minI_mem ns (min n m) with h | h
    · rw [h]
      by_cases q : m ≤ n
      · right
        rw [show min n m = m by omega]
        exact List.mem_cons_self
      · left; omega
    · exact .inr (List.mem_cons_of_mem _ h)
def maxF : List D → List Cell → Option D := fun ds _ => match ds with
  | [.int i, .int j] => some (.int (max i j))
  | [.lst xs] => match intsOf xs with
    | some (n :: ns) => some (.int (maxI n ns))
    | _ => none
  | _ => none
def minF : List D → List Cell → Option D := fun ds _ => match ds with
  | [.int i, .int j] => some (.int (min i j))
  | [.lst xs] => match intsOf xs with
    | some (n :: ns) => some (.int (minI n ns))
    | _ => none
  | _ => none
theorem max_if (i j : Int) : (if j > i then j else i) = max i j := by
  split <;> omega
theorem min_if (i j : Int) : (if j < i then j else i) = min i j := by
  split <;> omega
theorem b_max (hK : X.K = W.K) (hc : X.calm = true) : BltOk W X "max" maxF := by
  refine ⟨_, (call_max2 hc).or (cr_max hc), ?_⟩
  rw [hK]
  intro F H g ds d vs Q c rr e k
  cases ds with
  | nil => cases e
  | cons y ys =>
    cases ys with
    | nil =>
      obtain ⟨v, rfl, rv⟩ := look1 rr
      cases y <;> try (cases e; done)
      rename_i xs
      simp only [maxF] at e
      split at e
      · rename_i n ns hn
        cases e
        have hx := intsOf_eq hn
        obtain ⟨p, us, rfl, t, _, r⟩ := rv
        rw [hx] at r
        rw [r.ints] at t
        refine .inr ⟨p, n :: ns, rfl, .of t, Nat.succ_pos _, fun m hm hl => ?_⟩
        have : m = maxI n ns := by
          obtain ⟨h1, h2⟩ := maxI_ge ns n
          have h3 : maxI n ns ≤ m := by
            rcases maxI_mem ns n with h | h
            · rw [h]; exact hl n List.mem_cons_self
            · exact hl _ (List.mem_cons_of_mem _ h)
          rcases List.mem_cons.mp hm with rfl | hm
          · omega
          · have := h2 m hm; omega
        rw [this]
        exact k H _ (fun _ _ h => h) c (rep_int _)
      · cases e
    | cons z zs =>
      cases zs with
      | cons _ _ => cases y <;> cases z <;> cases e
      | nil =>
        obtain ⟨v, u, rfl, rv, ru⟩ := look2 rr
        cases y <;> try (cases e; done)
        cases z <;> try (cases e; done)
        cases e
        rename_i i j
        cases (show v = .int i from rv)
        cases (show u = .int j from ru)
        exact .inl ⟨i, j, rfl, k H _ (fun _ _ h => h) c (by rw [max_if]; exact rep_int _)⟩
theorem b_min (hK : X.K = W.K) (hc : X.calm = true) : BltOk W X "min" minF := by
  refine ⟨_, (call_min2 hc).or (cr_min hc), ?_⟩
  rw [hK]
  intro F H g ds d vs Q c rr e k
  cases ds with
  | nil => cases e
  | cons y ys =>
    cases ys with
    | nil =>
      obtain ⟨v, rfl, rv⟩ := look1 rr
      cases y <;> try (cases e; done)
      rename_i xs
      simp only [minF] at e
      split at e
      · rename_i n ns hn
        cases e
        have hx := intsOf_eq hn
        obtain ⟨p, us, rfl, t, _, r⟩ := rv
        rw [hx] at r
        rw [r.ints] at t
        refine .inr ⟨p, n :: ns, rfl, .of t, Nat.succ_pos _, fun m hm hl => ?_⟩
        have : m = minI n ns := by
          obtain ⟨h1, h2⟩ := minI_le ns n
          have h3 : m ≤ minI n ns := by
            rcases minI_mem ns n with h | h
            · rw [h]; exact hl n List.mem_cons_self
            · exact hl _ (List.mem_cons_of_mem _ h)
          rcases List.mem_cons.mp hm with rfl | hm
          · omega
          · have := h2 m hm; omega
        rw [this]
        exact k H _ (fun _ _ h => h) c (rep_int _)
      · cases e
    | cons z zs =>
      cases zs with
      | cons _ _ => cases y <;> cases z <;> cases e
      | nil =>
        obtain ⟨v, u, rfl, rv, ru⟩ := look2 rr
        cases y <;> try (cases e; done)
        cases z <;> try (cases e; done)
        cases e
        rename_i i j
        cases (show v = .int i from rv)
        cases (show u = .int j from ru)
        exact .inl ⟨i, j, rfl, k H _ (fun _ _ h => h) c (by rw [min_if]; exact rep_int _)⟩
def blsOf : List D → Option (List Bool)
  | [] => some []
  | .bl i :: r => (blsOf r).map (i :: ·)
  | _ => none
theorem blsOf_eq : ∀ {ds : List D} {ns : List Bool}, blsOf ds = some ns → ds = ns.map .bl
  | [], ns, h => by cases h; rfl
  | d :: ds, ns, h => by
    cases d <;> try (cases h; done)
    simp only [blsOf] at h
    cases q : blsOf ds with
    | none => rw [q] at h; cases h
    | some ms =>
      rw [q] at h
      cases h
      rw [blsOf_eq q]; rfl
@[simp] theorem blsOf_map (ns : List Bool) : blsOf (ns.map .bl) = some ns := by
  induction ns with
  | nil => rfl
  | cons n ns ih => simp only [List.map_cons, blsOf, ih, Option.map_some]
def allF : List D → List Cell → Option D := fun ds _ => match ds with
  | [.lst xs] => (blsOf xs).map fun bs => .bl (bs.all fun z => z)
  | _ => none
def anyF : List D → List Cell → Option D := fun ds _ => match ds with
  | [.lst xs] => (blsOf xs).map fun bs => .bl (bs.any fun z => z)
  | _ => none
def sumF : List D → List Cell → Option D := fun ds _ => match ds with
  | [.lst xs] => (intsOf xs).map fun bs => .int bs.sum
  | _ => none
theorem b_all (hK : X.K = W.K) (hc : X.calm = true) : BltOk W X "all" allF := by
  refine ⟨_, cr_all hc, ?_⟩
  rw [hK]
  intro F H g ds d vs Q c rr e k
  cases ds with
  | nil => cases e
  | cons y ys =>
    cases ys with
    | cons _ _ => cases y <;> cases e
    | nil =>
      obtain ⟨v, rfl, rv⟩ := look1 rr
      cases y <;> try (cases e; done)
      rename_i xs
      simp only [allF] at e
      cases q : blsOf xs with
      | none => rw [q] at e; cases e
      | some bs =>
        rw [q] at e
        cases e
        obtain ⟨p, us, rfl, t, _, r⟩ := rv
        rw [blsOf_eq q] at r
        rw [r.bls] at t
        exact ⟨p, bs, rfl, .of t, k H _ (fun _ _ h => h) c (rep_bl _)⟩
theorem b_any (hK : X.K = W.K) (hc : X.calm = true) : BltOk W X "any" anyF := by
  refine ⟨_, cr_any hc, ?_⟩
  rw [hK]
  intro F H g ds d vs Q c rr e k
  cases ds with
  | nil => cases e
  | cons y ys =>
    cases ys with
    | cons _ _ => cases y <;> cases e
    | nil =>
      obtain ⟨v, rfl, rv⟩ := look1 rr
      cases y <;> try (cases e; done)
      rename_i xs
      simp only [anyF] at e
      cases q : blsOf xs with
      | none => rw [q] at e; cases e
      | some bs =>
        rw [q] at e
        cases e
        obtain ⟨p, us, rfl, t, _, r⟩ := rv
        rw [blsOf_eq q] at r
        rw [r.bls] at t
        exact ⟨p, bs, rfl, .of t, k H _ (fun _ _ h => h) c (rep_bl _)⟩
theorem b_sum (hK : X.K = W.K) (hc : X.calm = true) : BltOk W X "sum" sumF := by
  refine ⟨_, cr_sum hc, ?_⟩
  rw [hK]
  intro F H g ds d vs Q c rr e k
  cases ds with
  | nil => cases e
  | cons y ys =>
    cases ys with
    | cons _ _ => cases y <;> cases e
    | nil =>
      obtain ⟨v, rfl, rv⟩ := look1 rr
      cases y <;> try (cases e; done)
      rename_i xs
      simp only [sumF] at e
      cases q : intsOf xs with
      | none => rw [q] at e; cases e
      | some bs =>
        rw [q] at e
        cases e
        obtain ⟨p, us, rfl, t, _, r⟩ := rv
        rw [intsOf_eq q] at r
        rw [r.ints] at t
        exact ⟨p, bs, rfl, .of t, k H _ (fun _ _ h => h) c (rep_int _)⟩
def tupF : List D → List Cell → Option D := fun ds _ => match ds with
  | [.lst xs] => some (.tup xs)
  | [.tup xs] => some (.tup xs)
  | _ => none
theorem b_tuple (hK : X.K = W.K) : TyOk W X "tuple" tupF := by
  refine ⟨_, call_tuple_of, ?_⟩
  rw [hK]
  intro F H g ds d vs Q c rr e k
  cases ds with
  | nil => cases e
  | cons y ys =>
    cases ys with
    | cons _ _ => cases y <;> cases e
    | nil =>
      obtain ⟨v, rfl, rv⟩ := look1 rr
      cases y <;> try (cases e; done)
      · cases e
        obtain ⟨p, us, rfl, t, r⟩ := rv
        exact ⟨p, us, rfl, .inr ⟨t.seq, k H _ (fun _ _ h => h) c ⟨p, us, rfl, t, r⟩⟩⟩
      · cases e
        obtain ⟨p, us, rfl, t, _, r⟩ := rv
        exact ⟨p, us, rfl, .inl ⟨.of t, fun l nl => k _ _ (keep_new nl) (c.new nl) (tup_new c nl r)⟩⟩
/-- list(x), a new one -/
def lstM (m : M (List D)) : M (List D) := fun e g => (m e g).bind fun ds g1 => match ds with
  | [.lst xs] => .ok xs g1
  | [.tup xs] => .ok xs g1
  | _ => .bad
theorem ev_list (hK : X.K = W.K) (hg : Gl X x) (hm : X.mg x = none) (hv : bootBuiltins x = some (.type "list")) (ha : PA X (a :: es) (tLs W E mr)) (hn : x ≠ "__name__" := by decide) (hdb : (x == ("__debug__" : Str)) = false := by decide)
    (he : starEach (a :: es) X.env = (false, eval a X.env) :: starEach es X.env := by rfl) (hpl : (backTo pos (starEach es X.env)).any (·.1) = false := by rfl) : PE X (.Call (.Name x p1) (a :: es) [] pos) (tF W E (lstM mr)) :=
  weakE (pe_callTy call_list_of hg hm hv ha hn hdb he hpl) fun σ H Q ⟨F, e, g, S, p⟩ => by
    refine ⟨F, e, g, S, (Post.bind p).mono fun ds g1 F1 H1 x1 c1 p1 vs rr => ?_⟩
    cases ds with
    | nil => exact p1.elim
    | cons y ys =>
      cases ys with
      | cons _ _ => cases y <;> exact p1.elim
      | nil =>
        obtain ⟨v, rfl, rv⟩ := look1 rr
        cases y <;> try exact p1.elim
        · obtain ⟨q, us, rfl, t, r⟩ := rv
          exact ⟨q, us, rfl, .inr (by rw [hK]; exact t.seq), fun l nl => p1 F1 H1 .refl c1 l us nl r⟩
        · obtain ⟨q, us, rfl, t, _, r⟩ := rv
          exact ⟨q, us, rfl, .inl (.of t), fun l nl => p1 F1 H1 .refl c1 l us nl r⟩
/-- i.bit_length() -/
def bitsD : D → List Cell → Option D := fun x _ => match x with
  | .int i => some (.int (Builtin.Int.intBits i : Nat))
  | _ => none
theorem ev_bits {ap : Pos} (ha : PE X a (tS W E ma)) (hb : attributeBase a "bit_length" X.env (eval a X.env) = eval a X.env := by rfl) (hl : (ap.endLine == pos.line) = true := by rfl) : PE X (.Call (.Attribute a "bit_length" ap) [] [] pos) (tM W E (unM bitsD ma)) :=
  weakE (pe_bits ha hb hl) fun σ H Q ⟨F, e, g, S, p⟩ => by
    refine ⟨F, e, g, S, (Post.bind p).mono fun x g1 F1 H1 x1 c1 p1 v r1 => ?_⟩
    obtain ⟨d, hd, k⟩ := post_of p1
    cases x <;> try (cases hd; done)
    cases hd
    exact ⟨_, r1, k F1 H1 .refl c1 _ (rep_int _)⟩
end
end Ev

/-! Ev3: statements, targets, loops, comprehensions. -/
namespace Ev
open PySem PySem.Spec PyProof.Rows L2

/-! ### what is wanted behind a statement -/
def Fb.base (F : Fb) : Fb := ⟨F.nu, [], F.th⟩
theorem base_has {F : Fb} {a : Addr} (h : F.base.has a) : F.has a := by
  rcases h with h | h | h
  · exact .inl h
  · cases h
  · exact .inr (.inr h)
theorem Up.base {F : Fb} {H : Hp} : Up F F.base H H := ⟨fun a o e n => ⟨e, fun z => n (base_has z)⟩, [], by simp [Fb.base]⟩
/-- the same forbidden addresses, or fewer -/
theorem Cells.less {W : Wd} {F F' : Fb} {H : Hp} {g : List Cell} (c : Cells W F H g) (h : ∀ a, F'.has a → F.has a) (ht : F'.th = F.th) (dj : ∀ a ∈ F'.th, a ∉ F'.nu ∧ a ∉ F'.om) (dj2 : ∀ a ∈ F'.om, a ∉ F'.nu) : Cells W F' H g := by
  have u : Up F F' H H := ⟨fun a o e n => ⟨e, fun z => n (h a z)⟩, [], by simp [ht]⟩
  refine ⟨by rw [ht]; exact c.nd, by rw [ht]; exact c.len, fun n a x h1 h2 => (c.cel n a x (by rw [← ht]; exact h1) h2).up u rfl, fun a q => c.tr a (h a q), dj, dj2⟩
theorem Cells.base {W : Wd} {F : Fb} {H : Hp} {g : List Cell} (c : Cells W F H g) : Cells W F.base H g :=
  c.less (fun _ => base_has) rfl (fun a h => ⟨(c.dj a h).1, by simp [Fb.base]⟩) fun a h => by cases h
def SPost (W : Wd) (E : XK) (F : Fb) (H : Hp) (r : RS) (D : Ends) : Prop := match r with
  | .nx e g => ∀ F' σ' H', Xs F F' H H' → St W F' e g σ' H' → D.nx σ' H'
  | .bk e g => ∀ F' σ' H', Xs F F' H H' → St W F' e g σ' H' → D.bk σ' H'
  | .ct e g => ∀ F' σ' H', Xs F F' H H' → St W F' e g σ' H' → D.ct σ' H'
  | .rt d g => ∀ F' H' v, Xs F F' H H' → Cells W F'.base H' g → Rep W F'.base H' d v → D.rt v H'
  | .ex c d g => ∀ F' H' dx v, Xs F F' H H' → Cells W F'.base H' g → Rep W F'.base H' d v → Xd F'.base H' dx v → E (.ref (W.ec c)) (some dx) H'
  | .bad => False
section
variable {W : Wd} {E : XK} {F F' : Fb} {H H' : Hp} {α : Type}
theorem SPost.on {r : RS} {D : Ends} (p : SPost W E F H r D) (x : Xs F F' H H') : SPost W E F' H' r D := by
  cases r with
  | nx e g => exact fun F2 σ2 H2 y s => p F2 σ2 H2 (x.trans y) s
  | bk e g => exact fun F2 σ2 H2 y s => p F2 σ2 H2 (x.trans y) s
  | ct e g => exact fun F2 σ2 H2 y s => p F2 σ2 H2 (x.trans y) s
  | rt d g => exact fun F2 H2 v y c => p F2 H2 v (x.trans y) c
  | ex c d g => exact fun F2 H2 dx v y => p F2 H2 dx v (x.trans y)
  | bad => exact p
theorem SPost.toS {r : R α} {f : α → List Cell → RS} {D : Ends} (p : SPost W E F H (r.toS f) D) : Post W E F H r fun a g F1 H1 => SPost W E F1 H1 (f a g) D := by
  cases r with
  | ok a g => exact fun F1 H1 x c => SPost.on (r := f a g) p x.xs
  | ex c d g => exact fun F1 H1 dx v x c' r hd => p F1 H1 dx v x.xs c'.base (r.up Up.base) (hd.up Up.base)
  | bad => exact p
theorem SPost.to {r : RS} {D D' : Ends} (p : SPost W E F H r D) (hn : ∀ σ H, D.nx σ H → D'.nx σ H) (hb : ∀ σ H, D.bk σ H → D'.bk σ H) (hc : ∀ σ H, D.ct σ H → D'.ct σ H) (hr : ∀ v H, D.rt v H → D'.rt v H) : SPost W E F H r D' := by
  cases r with
  | nx e g => exact fun F2 σ2 H2 y s => hn _ _ (p F2 σ2 H2 y s)
  | bk e g => exact fun F2 σ2 H2 y s => hb _ _ (p F2 σ2 H2 y s)
  | ct e g => exact fun F2 σ2 H2 y s => hc _ _ (p F2 σ2 H2 y s)
  | rt d g => exact fun F2 H2 v y c r => hr _ _ (p F2 H2 v y c r)
  | ex c d g => exact p
  | bad => exact p
end
def tMS (W : Wd) (E : XK) (m : MS) : TS := fun D σ H => ∃ F e g, St W F e g σ H ∧ SPost W E F H (m e g) D
section
variable {W : Wd} {E : XK} {X : Cx} {a b c : Expr} {pos : Pos} {ma mb mc : M D} {es : List Expr} {mr : M (List D)} {na nb : M Bool} {s1 s2 : MS} {st : Stmt} {rest : List Stmt}

/-! ### blocks, if, return -/
def skipS : MS := fun e g => .nx e g
def seqS (a b : MS) : MS := fun e g => match a e g with
  | .nx e1 g1 => b e1 g1
  | r => r
theorem et_nil : PSs X [] (tMS W E skipS) := weakB pss_nil fun D σ H ⟨F, e, g, S, p⟩ => p F σ H .refl S
theorem et_one (h : PS X st (tMS W E s1)) : PSs X [st] (tMS W E s1) := pss_one h
theorem et_cons (h : PS X st (tMS W E s1)) (k : PSs X rest (tMS W E s2)) : PSs X (st :: rest) (tMS W E (seqS s1 s2)) := weakB (pss_cons h k) fun D σ H ⟨F, e, g, S, p⟩ => by
  refine ⟨F, e, g, S, ?_⟩
  unfold seqS at p
  cases q : s1 e g with
  | nx e1 g1 =>
    rw [q] at p
    exact fun F' σ' H' x s => ⟨F', e1, g1, s, p.on x⟩
  | bk e1 g1 => rw [q] at p; exact p
  | ct e1 g1 => rw [q] at p; exact p
  | rt d g1 => rw [q] at p; exact p
  | ex c d g1 => rw [q] at p; exact p
  | bad => rw [q] at p; exact p
theorem es_pass : PS X (.Pass pos) (tMS W E skipS) := weakS ps_pass fun D σ H ⟨F, e, g, S, p⟩ => p F σ H .refl S
def breakS : MS := fun e g => .bk e g
def contS : MS := fun e g => .ct e g
theorem es_break : PS X (.Break pos) (tMS W E breakS) := weakS ps_break fun D σ H ⟨F, e, g, S, p⟩ => p F σ H .refl S
theorem es_cont : PS X (.Continue pos) (tMS W E contS) := weakS ps_continue fun D σ H ⟨F, e, g, S, p⟩ => p F σ H .refl S
def retS (m : M D) : MS := fun e g => (m e g).toS fun d g1 => .rt d g1
theorem es_ret (h : PE X a (tM W E ma)) : PS X (.Return (some a) pos) (tMS W E (retS ma)) := weakS (ps_ret h) fun D σ H ⟨F, e, g, S, p⟩ =>
  ⟨F, e, g, S, p.toS.mono fun d g1 F1 H1 x c k v r => k F1 H1 v .refl c.base (r.up Up.base)⟩
/-- this frame's own list is handed back -/
theorem es_retO (h : PE X a (tS W E ma)) (hm : ∀ e g d g', ma e g = .ok d g' → g' = g) : PS X (.Return (some a) pos) (tMS W E (retS ma)) → PS X (.Return (some a) pos) (tMS W E (retS ma)) := fun h => h
def retOwn (i : Nat) : MS := fun e g => match e[i]? with
  | some (.own ds) => .rt (.lst ds) g
  | some (.v d) => .rt d g
  | _ => .bad
theorem es_retOwn (i : Nat) {x : Str} {p1 : Pos} (hN : X.N[i]? = some x := by rfl) (hv : Vis X.env.scope x := by first | exact Or.inl rfl | exact Or.inr (Or.inl rfl) | exact Or.inr (Or.inr rfl)) (hd : (x == ("__debug__" : Str)) = false := by decide)
    (hcd : (x == ("__classdict__" : Str)) = false := by decide) : PS X (.Return (some (.Name x p1)) pos) (tMS W E (retOwn i)) := weakS (ps_ret (pe_var hN hv hd hcd)) fun D σ H ⟨F, e, g, S, p⟩ => by
  unfold retOwn at p
  cases q : e[i]? with
  | none => rw [q] at p; exact p.elim
  | some sl =>
    rw [q] at p
    cases sl with
    | no => exact p.elim
    | v d =>
      obtain ⟨v, h1, h2⟩ := S.slots i d q
      exact ⟨v, h1, p F H v .refl S.cells.base (h2.up Up.base)⟩
    | own ds =>
      obtain ⟨a, vs, h1, h2, h3, h4⟩ := S.owns i ds q
      refine ⟨.ref a, h1, p F H _ .refl S.cells.base ⟨a, vs, rfl, h3, fun z => ?_, h4.up Up.base⟩⟩
      rcases z with z | z | z
      · exact S.cells.dj2 a h2 z
      · cases z
      · exact (S.cells.dj a z).2 h2
def retN : MS := fun _ g => .rt .non g
theorem es_retN : PS X (.Return none pos) (tMS W E retN) := weakS ps_retN fun D σ H ⟨F, e, g, S, p⟩ => p F H .non .refl S.cells.base rfl
def ifS (t : M Bool) (a b : MS) : MS := fun e g => (t e g).toS fun x g1 => if x = true then a e g1 else b e g1
variable {ba bb : List Stmt}
theorem es_if (hc : PT X c (tB W E na)) (ha : PSs X ba (tMS W E s1)) (hb : PSs X bb (tMS W E s2)) : PS X (.If c ba bb pos) (tMS W E (ifS na s1 s2)) := weakS (ps_if hc ha hb) fun D σ H ⟨F, e, g, S, p⟩ => by
  refine ⟨F, e, g, S, p.toS.mono fun x g1 F1 H1 x1 c1 p1 => ?_⟩
  cases x with
  | true => exact ⟨F1, e, g1, S.step x1 c1, p1⟩
  | false => exact ⟨F1, e, g1, S.step x1 c1, p1⟩
def exprS (m : M D) : MS := fun e g => (m e g).toS fun _ g1 => .nx e g1
theorem es_expr (h : PE X a (tM W E ma)) (hs : swapsWith a none pos.line X.env = pure false := by rfl) : PS X (.Expr a pos) (tMS W E (exprS ma)) := weakS (ps_expr h hs) fun D σ H ⟨F, e, g, S, p⟩ =>
  ⟨F, e, g, S, p.toS.mono fun d g1 F1 H1 x c k v r => k F1 σ H1 .refl (S.step x c)⟩
theorem es_doc {x : Str} {j pos'} : PS X (.Expr (.Constant (.str x) j pos) pos') (tMS W E skipS) := weakS ps_doc fun D σ H ⟨F, e, g, S, p⟩ => p F σ H .refl S

/-! ### targets -/
theorem set_get {α : Type} {l : List α} {i j : Nat} {x y : α} (h : (l.set i x)[j]? = some y) : (i = j ∧ y = x) ∨ (i ≠ j ∧ l[j]? = some y) := by
  by_cases e : i = j
  · subst e
    rw [List.getElem?_set] at h
    simp only [if_pos] at h
    split at h
    · cases h; exact .inl ⟨rfl, rfl⟩
    · cases h
  · rw [List.getElem?_set_ne e] at h
    exact .inr ⟨e, h⟩
/-- a name holds a value -/
theorem St.put {F : Fb} {e : Env} {g : List Cell} {σ : L2.St} {H : Hp} (S : St W F e g σ H) {d : D} {v : V} (r : Rep W F H d v) (i : Nat) : St W F (e.set i (.v d)) g (σ.set i (some v)) H := by
  refine ⟨S.cells, by simpa using S.len, fun j d' h => ?_, fun j ds h => ?_, fun j l ds es a n h1 h2 h3 => ?_⟩
  · rcases set_get h with ⟨rfl, q⟩ | ⟨n, q⟩
    · cases q
      have hi : i < σ.length := by
        have := (List.getElem?_eq_some_iff.mp h).1
        rw [List.length_set] at this
        rw [← S.len]; exact this
      exact ⟨v, List.getElem?_set_self hi, r⟩
    · rw [List.getElem?_set_ne n]
      exact S.slots j d' q
  · rcases set_get h with ⟨rfl, q⟩ | ⟨n, q⟩
    · cases q
    · rw [List.getElem?_set_ne n]
      exact S.owns j ds q
  · rcases set_get h1 with ⟨rfl, q⟩ | ⟨n1, q1⟩
    · cases q
    · rcases set_get h2 with ⟨rfl, q⟩ | ⟨n2, q2⟩
      · cases q
      · rw [List.getElem?_set_ne n1] at h3
        rw [List.getElem?_set_ne n2]
        exact S.apart j l ds es a n q1 q2 h3
/-- a list that no one else has is laid -/
theorem Up.own {F : Fb} {H : Hp} {p : Addr} {o : HO} (np : H p = none) : Up F { F with om := p :: F.om } H (upd H p o) := by
  refine ⟨fun a u e n => ⟨keep_new np a u e, fun z => ?_⟩, [], by simp⟩
  rcases z with z | z | z
  · exact n (.inl z)
  · rcases List.mem_cons.mp z with z | z
    · rw [z, np] at e; cases e
    · exact n (.inr (.inl z))
  · exact n (.inr (.inr z))
theorem Cells.own {F : Fb} {H : Hp} {g : List Cell} (c : Cells W F H g) {p : Addr} {o : HO} (np : H p = Option.none) : Cells W { F with om := p :: F.om } (upd H p o) g := by
  have nh : ¬ F.has p := c.none np
  refine ⟨c.nd, c.len, fun n a x h1 h2 => (c.cel n a x h1 h2).up (Up.own np) ?_, fun a z => ?_, fun a h => ⟨(c.dj a h).1, fun z => ?_⟩, fun a h z => ?_⟩
  · exact upd_ne (fun z => nh (.inr (.inr (z ▸ List.mem_of_getElem? h1))))
  · by_cases q : a = p
    · exact ⟨o, by rw [q]; exact upd_same⟩
    · rcases z with z | z | z
      · obtain ⟨u, e⟩ := c.tr a (.inl z)
        exact ⟨u, by rw [upd_ne q]; exact e⟩
      · rcases List.mem_cons.mp z with z | z
        · exact absurd z q
        · obtain ⟨u, e⟩ := c.tr a (.inr (.inl z))
          exact ⟨u, by rw [upd_ne q]; exact e⟩
      · obtain ⟨u, e⟩ := c.tr a (.inr (.inr z))
        exact ⟨u, by rw [upd_ne q]; exact e⟩
  · rcases List.mem_cons.mp z with z | z
    · exact nh (.inr (.inr (z ▸ h)))
    · exact (c.dj a h).2 z
  · rcases List.mem_cons.mp h with h | h
    · exact nh (.inl (h ▸ z))
    · exact c.dj2 a h z
theorem Xs.own {F : Fb} {H : Hp} {p : Addr} {o : HO} (np : H p = none) : Xs F { F with om := p :: F.om } H (upd H p o) := by
  refine ⟨fun a u e _ _ => keep_new np a u e, fun a u e => ⟨u, keep_new np a u e⟩, ⟨[], by simp, by simp⟩, rfl, fun a z => ?_⟩
  rcases List.mem_cons.mp z with z | z
  · right; rw [z]; exact np
  · exact .inl z
/-- a name holds a new list of its own -/
theorem St.putO {F : Fb} {e : Env} {g : List Cell} {σ : L2.St} {H : Hp} (S : St W F e g σ H) {ds : List D} {vs : List V} {p : Addr} (np : H p = none) (r : RepL W F H ds vs) (i : Nat) :
    St W { F with om := p :: F.om } (e.set i (.own ds)) g (σ.set i (some (.ref p))) (upd H p (.lst vs)) := by
  have nh : ¬ F.has p := S.cells.none np
  have nop : ∀ (j : Nat) (ds : List D), e[j]? = some (Slot.own ds) → σ[j]? ≠ some (some (V.ref p)) := fun j ds h q => by
    obtain ⟨a, vs', h1, h2, _⟩ := S.owns j ds h
    rw [q] at h1
    cases h1
    exact nh (.inr (.inl h2))
  refine ⟨S.cells.own np, by simpa using S.len, fun j d' h => ?_, fun j es h => ?_, fun j l es fs a n h1 h2 h3 => ?_⟩
  · rcases set_get h with ⟨rfl, q⟩ | ⟨n, q⟩
    · cases q
    · rw [List.getElem?_set_ne n]
      obtain ⟨v, h1, h2⟩ := S.slots j d' q
      exact ⟨v, h1, h2.up (Up.own np)⟩
  · rcases set_get h with ⟨rfl, q⟩ | ⟨n, q⟩
    · cases q
      have hi : i < σ.length := by
        have := (List.getElem?_eq_some_iff.mp h).1
        rw [List.length_set] at this
        rw [← S.len]; exact this
      exact ⟨p, vs, List.getElem?_set_self hi, List.mem_cons_self, upd_same, r.up (Up.own np)⟩
    · rw [List.getElem?_set_ne n]
      obtain ⟨a, ws, h1, h2, h3, h4⟩ := S.owns j es q
      exact ⟨a, ws, h1, List.mem_cons_of_mem _ h2, keep_new np _ _ h3, h4.up (Up.own np)⟩
  · rcases set_get h1 with ⟨rfl, q1⟩ | ⟨n1, q1⟩
    · cases q1
      have hi : i < σ.length := by
        have := (List.getElem?_eq_some_iff.mp h1).1
        rw [List.length_set] at this
        rw [← S.len]; exact this
      rw [List.getElem?_set_self hi] at h3
      cases h3
      rcases set_get h2 with ⟨e2, q2⟩ | ⟨n2, q2⟩
      · exact absurd e2 n
      · rw [List.getElem?_set_ne n2]
        exact nop l fs q2
    · rw [List.getElem?_set_ne n1] at h3
      rcases set_get h2 with ⟨rfl, q2⟩ | ⟨n2, q2⟩
      · intro z
        have hi : i < σ.length := by
          have := (List.getElem?_eq_some_iff.mp h2).1
          rw [List.length_set] at this
          rw [← S.len]; exact this
        rw [List.getElem?_set_self hi] at z
        cases z
        exact nop j es q1 h3
      · rw [List.getElem?_set_ne n2]
        exact S.apart j l es fs a n q1 q2 h3

/-- targets: what a value does to the names; the slots that are stored -/
def tG (W : Wd) (f : D → Env → Option Env) (vs : List Nat) : TG := fun v σ H Q => ∃ F e g d e', St W F e g σ H ∧ Rep W F H d v ∧ f d e = some e' ∧ ∀ σ', St W F e' g σ' H → (∀ ws, (∀ i ∈ vs, i ∈ ws) → wipe σ' ws = wipe σ ws) → Q σ' H
def tGs (W : Wd) (f : List D → Env → Option Env) (vs : List Nat) : TGs := fun us σ H Q => ∃ F e g ds e', St W F e g σ H ∧ RepL W F H ds us ∧ f ds e = some e' ∧ ∀ σ', St W F e' g σ' H → (∀ ws, (∀ i ∈ vs, i ∈ ws) → wipe σ' ws = wipe σ ws) → Q σ' H
theorem wipe_set {i : Nat} {x : Option V} : ∀ {ws : List Nat} {σ : L2.St}, i ∈ ws → wipe (σ.set i x) ws = wipe σ ws := by
  intro ws
  induction ws with
  | nil => intro σ h; cases h
  | cons w ws ih =>
    intro σ h
    show (wipe (σ.set i x) ws).set w none = (wipe σ ws).set w none
    by_cases hi : i ∈ ws
    · rw [ih hi]
    · have hw : i = w := by
        rcases List.mem_cons.mp h with h | h
        · exact h
        · exact absurd h hi
      subst hw
      -- the store goes out through the wipes
      have key : ∀ (ws : List Nat) (σ : L2.St), wipe (σ.set i x) ws = (wipe σ ws).set i x ∨ i ∈ ws := by
        intro ws
        induction ws with
        | nil => intro σ; exact .inl rfl
        | cons w ws ih2 =>
          intro σ
          by_cases q : i = w
          · exact .inr (by rw [q]; exact List.mem_cons_self)
          · rcases ih2 σ with h | h
            · left
              show (wipe (σ.set i x) ws).set w none = ((wipe σ ws).set w none).set i x
              rw [h, List.set_comm _ _ q]
            · exact .inr (List.mem_cons_of_mem _ h)
      rcases key ws σ with k | k
      · rw [k, List.set_set]
      · exact absurd k hi
def tgN (i : Nat) : D → Env → Option Env := fun d e => some (e.set i (.v d))
theorem eg_name (i : Nat) {x : Str} (hN : X.N.Nodup) (hi : X.N[i]? = some x := by rfl) (hx : Loc X.env.scope x := by first | exact Or.inl rfl | exact Or.inr rfl) (hf : X.fn x = true ∨ X.env.scope.names.lookup x = some .local := by first | exact .inl rfl | exact .inr rfl | assumption) :
    PG X (.Name x pos) (tG W (tgN i) [i]) := ⟨fun pins s σ H v u Q I r ⟨F, e, g, d, e', S, rd, he, k⟩ => (pg_name hN hi hx hf).run pins s σ H v u Q I r (by
  cases he
  exact k _ (S.put rd i) fun ws h => wipe_set (h i (by simp)))⟩
def tgs0 : List D → Env → Option Env := fun ds e => match ds with
  | [] => some e
  | _ => none
def tgs1 (f : D → Env → Option Env) (fs : List D → Env → Option Env) : List D → Env → Option Env := fun ds e => match ds with
  | d :: r => match f d e with
    | some e1 => fs r e1
    | none => none
  | [] => none
theorem egs_nil : PGs X [] (tGs W tgs0 []) := ⟨fun pins s σ H vs us Q I r ⟨F, e, g, ds, e', S, rd, he, k⟩ => pgs_nil.run pins s σ H vs us Q I r (by
  cases ds with
  | cons _ _ => cases he
  | nil =>
    cases he
    cases (show vs = [] from rd)
    exact ⟨rfl, k σ S fun _ _ => rfl⟩)⟩
variable {f : D → Env → Option Env} {fs : List D → Env → Option Env} {v1 v2 : List Nat}
theorem egs_cons (h1 : PG X a (tG W f v1)) (h2 : PGs X es (tGs W fs v2)) (hs : (assignEach (a :: es) X.env).map (·.2) = assign a X.env :: (assignEach es X.env).map (·.2) := by rfl) : PGs X (a :: es) (tGs W (tgs1 f fs) (v1 ++ v2)) :=
  ⟨fun pins s σ H vs us Q I r ⟨F, e, g, ds, e', S, rd, he, k⟩ => (pgs_cons h1 h2 hs).run pins s σ H vs us Q I r (by
    cases ds with
    | nil => cases he
    | cons d ds =>
      obtain ⟨v, vr, rfl, rv, rr⟩ := rd
      simp only [tgs1] at he
      cases q : f d e with
      | none => rw [q] at he; cases he
      | some e1 =>
        rw [q] at he
        refine ⟨v, vr, rfl, F, e, g, d, e1, S, rv, q, fun σ1 S1 w1 => ?_⟩
        exact ⟨F, e1, g, ds, e', S1, rr, he, fun σ2 S2 w2 => k σ2 S2 fun ws hw => (w2 ws fun i hi => hw i (List.mem_append_right _ hi)).trans (w1 ws fun i hi => hw i (List.mem_append_left _ hi))⟩)⟩
def tgT (n : Nat) (fs : List D → Env → Option Env) : D → Env → Option Env := fun d e => match d with
  | .tup ds => if ds.length = n then fs ds e else none
  | _ => none
theorem eg_tup {n kk : Nat} (hK : X.K = W.K) (hc : X.calm = true) (h : PGs X es (tGs W fs v1)) (hn : (assignEach es X.env).length = n := by rfl) (hst : (assignEach es X.env).findIdx? (·.1) = none := by rfl) :
    PG X (.Tuple es kk pos) (tG W (tgT n fs) v1) := ⟨fun pins s σ H v u Q I r ⟨F, e, g, d, e', S, rd, he, k⟩ => (pg_tup hc h hn hst).run pins s σ H v u Q I r (by
  cases d <;> try (cases he; done)
  simp only [tgT] at he
  split at he
  · rename_i ds hl
    obtain ⟨q, us', rfl, t, rr⟩ := rd
    exact ⟨q, us', rfl, by rw [hK]; exact t.seq, by rw [← rr.length]; exact hl, F, e, g, ds, e', S, rr, he, k⟩
  · cases he)⟩

/-! ### assignments -/
def asgS (m : M D) (f : D → Env → Option Env) : MS := fun e g => (m e g).toS fun d g1 => match f d e with
  | some e1 => .nx e1 g1
  | none => .bad
theorem r_asg {te : TE} {g0 : TG} {D0 : Ends} {σ : L2.St} {H : Hp} (h : tMS W E (asgS ma f) D0 σ H) : tAsg (tM W E ma) (tG W f v1) D0 σ H := by
  obtain ⟨F, e, g, S, p⟩ := h
  refine ⟨F, e, g, S, p.toS.mono fun d g1 F1 H1 x c k v r => ?_⟩
  cases q : f d e with
  | none => rw [q] at k; exact k.elim
  | some e1 =>
    rw [q] at k
    exact ⟨F1, e, g1, d, e1, S.step x c, r, q, fun σ' S' _ => k F1 σ' H1 .refl S'⟩
theorem es_set {i : Nat} {x : Str} {p1 : Pos} (hN : X.N.Nodup) (ha : PE X a (tM W E ma)) (hi : X.N[i]? = some x := by rfl) (hx : Loc X.env.scope x := by first | exact Or.inl rfl | exact Or.inr rfl) (hs : swapsWith a (some (.Name x p1)) pos.line X.env = pure false := by rfl)
    (hf : X.fn x = true ∨ X.env.scope.names.lookup x = some .local := by first | exact .inl rfl | exact .inr rfl | assumption) : PS X (.Assign [.Name x p1] a pos) (tMS W E (asgS ma (tgN i))) :=
  weakS (ps_set hN hi hx ha hs hf) fun D σ H ⟨F, e, g, S, p⟩ => ⟨F, e, g, S, p.toS.mono fun d g1 F1 H1 x c k v r => k F1 _ H1 .refl ((S.step x c).put r i)⟩
theorem es_asg {tg : Expr} (ha : PE X a (tM W E ma)) (hg : PG X tg (tG W f v1)) (hs : swapsWithSole [tg] a pos.line X.env = pure false := by rfl) (hw : swappedStores [tg] a X.env = pure none := by rfl)
    (h1 : (assignEach [tg] X.env).map (·.2) = [assign tg X.env] := by rfl) : PS X (.Assign [tg] a pos) (tMS W E (asgS ma f)) := weakS (ps_asg ha hg hs hw h1) fun D σ H h => r_asg (te := fun _ _ _ => True) (g0 := fun _ _ _ _ => True) h
/-- a name, a new list of its own -/
def ownS (m : M (List D)) (i : Nat) : MS := fun e g => (m e g).toS fun ds g1 => .nx (e.set i (.own ds)) g1
theorem es_own {i : Nat} {x : Str} {p1 : Pos} (hN : X.N.Nodup) (ha : PE X a (tF W E mr)) (hi : X.N[i]? = some x := by rfl) (hx : Loc X.env.scope x := by first | exact Or.inl rfl | exact Or.inr rfl) (hs : swapsWith a (some (.Name x p1)) pos.line X.env = pure false := by rfl)
    (hf : X.fn x = true ∨ X.env.scope.names.lookup x = some .local := by first | exact .inl rfl | exact .inr rfl | assumption) : PS X (.Assign [.Name x p1] a pos) (tMS W E (ownS mr i)) :=
  weakS (ps_set hN hi hx ha hs hf) fun D σ H ⟨F, e, g, S, p⟩ => ⟨F, e, g, S, p.toS.mono fun ds g1 F1 H1 x c k q vs nq r => k _ _ _ (Xs.own nq) ((S.step x c).putO nq r i)⟩
/-- the own list of a name is left to all -/
def frzE (i : Nat) (e : Env) : Env := match e[i]? with
  | some (.own ds) => e.set i (.v (.lst ds))
  | _ => e
theorem St.frz {F : Fb} {e : Env} {g : List Cell} {σ : L2.St} {H : Hp} (S : St W F e g σ H) (i : Nat) : ∃ F', Xs F F' H H ∧ St W F' (frzE i e) g σ H := by
  unfold frzE
  cases q : e[i]? with
  | none => exact ⟨F, .refl, S⟩
  | some sl =>
    cases sl with
    | no => exact ⟨F, .refl, S⟩
    | v d => exact ⟨F, .refl, S⟩
    | own ds =>
      obtain ⟨a, vs, h1, h2, h3, h4⟩ := S.owns i ds q
      have hsub : ∀ b, ({ F with om := F.om.filter (· ≠ a) } : Fb).has b → F.has b ∧ b ≠ a := fun b z => by
        rcases z with z | z | z
        · exact ⟨.inl z, fun w => S.cells.dj2 a h2 (w ▸ z)⟩
        · rw [List.mem_filter] at z
          exact ⟨.inr (.inl z.1), by simpa using z.2⟩
        · exact ⟨.inr (.inr z), fun w => (S.cells.dj a (w ▸ z)).2 h2⟩
      have up : Up F { F with om := F.om.filter (· ≠ a) } H H := ⟨fun b o e n => ⟨e, fun z => n (hsub b z).1⟩, [], by simp⟩
      have c : Cells W { F with om := F.om.filter (· ≠ a) } H g := S.cells.less (fun b z => (hsub b z).1) rfl (fun b z => ⟨(S.cells.dj b z).1, fun w => (S.cells.dj b z).2 (List.mem_filter.mp w).1⟩) fun b z => S.cells.dj2 b (List.mem_filter.mp z).1
      refine ⟨{ F with om := F.om.filter (· ≠ a) }, ⟨fun _ _ e _ _ => e, fun _ o e => ⟨o, e⟩, ⟨[], by simp, by simp⟩, rfl, fun b z => .inl (List.mem_filter.mp z).1⟩, ?_⟩
      refine ⟨c, by simpa using S.len, fun j d' h => ?_, fun j es h => ?_, fun j l es fs b n k1 k2 k3 => ?_⟩
      · rcases set_get h with ⟨rfl, q'⟩ | ⟨n, q'⟩
        · cases q'
          exact ⟨.ref a, h1, a, vs, rfl, h3, fun z => (hsub a z).2 rfl, h4.up up⟩
        · obtain ⟨v, k1, k2⟩ := S.slots j d' q'
          exact ⟨v, k1, k2.up up⟩
      · rcases set_get h with ⟨rfl, q'⟩ | ⟨n, q'⟩
        · cases q'
        · obtain ⟨b, ws, k1, k2, k3, k4⟩ := S.owns j es q'
          refine ⟨b, ws, k1, List.mem_filter.mpr ⟨k2, ?_⟩, k3, k4.up up⟩
          have : b ≠ a := fun w => S.apart i j ds es a n q q' h1 (w ▸ k1)
          simpa using this
      · rcases set_get k1 with ⟨_, q1⟩ | ⟨n1, q1⟩
        · cases q1
        · rcases set_get k2 with ⟨_, q2⟩ | ⟨n2, q2⟩
          · cases q2
          · exact S.apart j l es fs b n q1 q2 k3
/-- ahead of a statement own lists are left to all -/
def frzS (i : Nat) (m : MS) : MS := fun e g => m (frzE i e) g
theorem es_frz (i : Nat) (h : PS X st (tMS W E s1)) : PS X st (tMS W E (frzS i s1)) := weakS h fun D σ H ⟨F, e, g, S, p⟩ => by
  obtain ⟨F', x, S'⟩ := S.frz i
  exact ⟨F', _, g, S', p.on x⟩
end
end Ev

/-! Ev4: stores to lists and cells, two targets at once, loops, comprehensions. -/
namespace Ev
open PySem PySem.Spec PyProof.Rows L2 RZ
section
variable {W : Wd} {E : XK} {X : Cx} {a b c : Expr} {pos : Pos} {ma mb mc : M D} {es : List Expr} {mr mq : M (List D)} {na nb : M Bool} {s1 s2 : MS} {st : Stmt} {rest : List Stmt}

/-! ### lists of this frame are written -/
theorem slot_lt {F : Fb} {e : Env} {g : List Cell} {σ : L2.St} {H : Hp} (S : St W F e g σ H) {i : Nat} {s : Slot} (h : e[i]? = some s) : i < σ.length := by
  rw [← S.len]; exact (List.getElem?_eq_some_iff.mp h).1
theorem Up.wr {F : Fb} {H : Hp} {p : Addr} {o : HO} (h : F.has p) : Up F F H (upd H p o) := ⟨fun a u e n => ⟨by rw [upd_ne (fun z : a = p => n (by rw [z]; exact h))]; exact e, n⟩, [], by simp⟩
theorem St.wr {F : Fb} {e : Env} {g : List Cell} {σ : L2.St} {H : Hp} (S : St W F e g σ H) {i : Nat} {ds ds' : List D} {vs' : List V} {p : Addr} (h : e[i]? = some (.own ds)) (hp : σ[i]? = some (some (.ref p))) (r : RepL W F H ds' vs') :
    Xs F F H (upd H p (.lst vs')) ∧ St W F (e.set i (.own ds')) g σ (upd H p (.lst vs')) := by
  obtain ⟨q, vs, h1, h2, h3, h4⟩ := S.owns i ds h
  have hq : q = p := by rw [hp] at h1; cases h1; rfl
  subst hq
  have up : Up F F H (upd H q (.lst vs')) := Up.wr (.inr (.inl h2))
  have tr' : ∀ a u, H a = some u → ∃ u', upd H q (.lst vs') a = some u' := fun a u e => by
    by_cases z : a = q
    · exact ⟨_, by rw [z]; exact upd_same⟩
    · exact ⟨u, by rw [upd_ne z]; exact e⟩
  refine ⟨⟨fun a u e n1 n2 => by rw [upd_ne (fun z : a = q => n2 (by rw [z]; exact h2))]; exact e, tr', ⟨[], by simp, by simp⟩, rfl, fun _ z => .inl z⟩, ⟨S.cells.nd, S.cells.len, fun n a x k1 k2 => (S.cells.cel n a x k1 k2).up up ?_, fun a z => ?_, S.cells.dj, S.cells.dj2⟩, by simpa using S.len, fun j d' k => ?_, fun j fs k => ?_, fun j l fs hs b n k1 k2 k3 => ?_⟩
  · exact upd_ne fun z => (S.cells.dj a (List.mem_of_getElem? k1)).2 (z ▸ h2)
  · obtain ⟨u, e⟩ := S.cells.tr a z
    exact tr' a u e
  · rcases set_get k with ⟨rfl, z⟩ | ⟨n, z⟩
    · cases z
    · obtain ⟨v, k1, k2⟩ := S.slots j d' z
      exact ⟨v, k1, k2.up up⟩
  · rcases set_get k with ⟨rfl, z⟩ | ⟨n, z⟩
    · cases z
      exact ⟨q, vs', hp, h2, upd_same, r.up up⟩
    · obtain ⟨b, ws, k1, k2, k3, k4⟩ := S.owns j fs z
      have nb : b ≠ q := fun w => S.apart i j ds fs q n h z hp (by rw [k1, w])
      exact ⟨b, ws, k1, k2, by rw [upd_ne nb]; exact k3, k4.up up⟩
  · rcases set_get k1 with ⟨rfl, z1⟩ | ⟨n1, z1⟩
    · rcases set_get k2 with ⟨e2, z2⟩ | ⟨n2, z2⟩
      · exact absurd e2 n
      · exact S.apart _ l ds hs b n h z2 k3
    · rcases set_get k2 with ⟨rfl, z2⟩ | ⟨n2, z2⟩
      · exact S.apart j _ fs ds b n z1 h k3
      · exact S.apart j l fs hs b n z1 z2 k3
/-- a cell is written -/
theorem St.wrC {F : Fb} {e : Env} {g : List Cell} {σ : L2.St} {H : Hp} (S : St W F e g σ H) {n : Nat} {ds' : List D} {vs' : List V} {p : Addr} (hp : F.th[n]? = some p) (hl : ∃ vs, H p = some (.lst vs)) (r : RepL W F H ds' vs') :
    Xe F F H (upd H p (.lst vs')) ∧ St W F e (g.set n (.lst ds')) σ (upd H p (.lst vs')) := by
  have hm : p ∈ F.th := List.mem_of_getElem? hp
  have up : Up F F H (upd H p (.lst vs')) := Up.wr (.inr (.inr hm))
  have tr' : ∀ a u, H a = some u → ∃ u', upd H p (.lst vs') a = some u' := fun a u e => by
    by_cases z : a = p
    · exact ⟨_, by rw [z]; exact upd_same⟩
    · exact ⟨u, by rw [upd_ne z]; exact e⟩
  have x : Xe F F H (upd H p (.lst vs')) := ⟨fun a u e n => by rw [upd_ne (fun z : a = p => n (by rw [z]; exact hm))]; exact e, tr', ⟨[], by simp, by simp⟩, rfl, rfl⟩
  refine ⟨x, S.step x ⟨S.cells.nd, by simpa using S.cells.len, fun m a y k1 k2 => ?_, fun a z => ?_, S.cells.dj, S.cells.dj2⟩⟩
  · rcases set_get k2 with ⟨rfl, z⟩ | ⟨q, z⟩
    · cases z
      rw [hp] at k1
      cases k1
      exact ⟨vs', upd_same, r.up up⟩
    · refine (S.cells.cel m a y k1 z).up up (upd_ne fun w => ?_)
      have i1 := (List.getElem?_eq_some_iff.mp k1)
      have i2 := (List.getElem?_eq_some_iff.mp hp)
      obtain ⟨l1, e1⟩ := i1
      obtain ⟨l2, e2⟩ := i2
      exact q ((List.getElem_inj S.cells.nd).mp (e2.trans (w.symm.trans e1.symm)))
  · obtain ⟨u, e⟩ := S.cells.tr a z
    exact tr' a u e
theorem ty_list {K : PySem.W.Frag} {H : Hp} {p : Addr} {vs : List V} (h : H p = some (.lst vs)) : tyV K "list" (.ref p) H := Or.inl ⟨rfl, _, Or.inl (Or.inl h)⟩
def appendS (i : Nat) (m : M D) : MS := fun e g => match e[i]? with
  | some (.own ds) => (m e g).toS fun d g1 => if ds.length < 16777216 then .nx (e.set i (.own (ds ++ [d]))) g1 else .bad
  | _ => .bad
variable {x y : Str} {p1 p2 p3 p4 : Pos}
theorem es_append {i : Nat} (h0 : PE X a (tBM X.K "list" rAppend (tVar i) (tCons (tM W E ma) tNil))) (hs : swapsWith a none pos.line X.env = pure false := by rfl) : PS X (.Expr a pos) (tMS W E (appendS i ma)) := weakS (ps_expr h0 hs) fun D0 σ H ⟨F, e, g, S, p⟩ => by
  unfold appendS at p
  cases q : e[i]? with
  | none => rw [q] at p; exact p.elim
  | some sl =>
    rw [q] at p
    cases sl with
    | no => exact p.elim
    | v d => exact p.elim
    | own ds =>
      obtain ⟨l, vs, h1, h2, h3, h4⟩ := S.owns i ds q
      refine ⟨_, h1, ty_list h3, F, e, g, S, p.toS.mono fun d g1 F1 H1 x1 c1 k v r => ?_⟩
      have S1 := S.step x1 c1
      obtain ⟨l', vs', k1, k2, k3, k4⟩ := S1.owns i ds q
      have e1 : l' = l := by rw [h1] at k1; cases k1; rfl
      subst e1
      split at k
      · rename_i hl
        refine ⟨l', vs', v, rfl, rfl, k3, by rw [sizeLine_eq, ← k4.length]; exact hl, ?_⟩
        obtain ⟨xs, S2⟩ := S1.wr q h1 (k4.append (RepL.one r))
        exact k F1 σ _ xs S2
      · exact k.elim
theorem RepL.dropLast {F : Fb} {H : Hp} {ds : List D} {vs : List V} (r : RepL W F H ds vs) : RepL W F H ds.dropLast vs.dropLast := by
  rw [List.dropLast_eq_take, List.dropLast_eq_take, r.length]
  exact r.take _
def popS (i : Nat) : MS := fun e g => match e[i]? with
  | some (.own ds) => match ds[ds.length - 1]? with
    | some _ => .nx (e.set i (.own ds.dropLast)) g
    | none => .bad
  | _ => .bad
theorem es_pop {i : Nat} (h0 : PE X a (tBM0 X.K "list" rPop (tVar i))) (hs : swapsWith a none pos.line X.env = pure false := by rfl) : PS X (.Expr a pos) (tMS W E (popS i)) := weakS (ps_expr h0 hs) fun D0 σ H ⟨F, e, g, S, p⟩ => by
  unfold popS at p
  cases q : e[i]? with
  | none => rw [q] at p; exact p.elim
  | some sl =>
    rw [q] at p
    cases sl with
    | no => exact p.elim
    | v d => exact p.elim
    | own ds =>
      obtain ⟨l, vs, h1, h2, h3, h4⟩ := S.owns i ds q
      simp only at p
      cases q2 : ds[ds.length - 1]? with
      | none => rw [q2] at p; exact p.elim
      | some d =>
        rw [q2] at p
        obtain ⟨v, k1, k2⟩ := h4.get q2
        refine ⟨_, h1, ty_list h3, l, vs, v, rfl, rfl, h3, by rw [← h4.length]; exact k1, ?_⟩
        obtain ⟨xs, S2⟩ := S.wr q h1 h4.dropLast
        exact p F σ _ xs S2
/-- y = x.pop() -/
def popA (i j : Nat) : MS := fun e g => match e[i]? with
  | some (.own ds) => match ds[ds.length - 1]? with
    | some d => .nx ((e.set i (.own ds.dropLast)).set j (.v d)) g
    | none => .bad
  | _ => .bad
theorem es_popA {i j : Nat} (hN : X.N.Nodup) (h0 : PE X a (tBM0 X.K "list" rPop (tVar i))) (hi : X.N[j]? = some y := by rfl) (hx : Loc X.env.scope y := by first | exact Or.inl rfl | exact Or.inr rfl) (hs : swapsWith a (some (.Name y p1)) pos.line X.env = pure false := by rfl)
    (hf : X.fn y = true ∨ X.env.scope.names.lookup y = some .local := by first | exact .inl rfl | exact .inr rfl | assumption) : PS X (.Assign [.Name y p1] a pos) (tMS W E (popA i j)) := weakS (ps_set hN hi hx h0 hs hf) fun D0 σ H ⟨F, e, g, S, p⟩ => by
  unfold popA at p
  cases q : e[i]? with
  | none => rw [q] at p; exact p.elim
  | some sl =>
    rw [q] at p
    cases sl with
    | no => exact p.elim
    | v d => exact p.elim
    | own ds =>
      obtain ⟨l, vs, h1, h2, h3, h4⟩ := S.owns i ds q
      simp only at p
      cases q2 : ds[ds.length - 1]? with
      | none => rw [q2] at p; exact p.elim
      | some d =>
        rw [q2] at p
        obtain ⟨v, k1, k2⟩ := h4.get q2
        refine ⟨_, h1, ty_list h3, l, vs, v, rfl, rfl, h3, by rw [← h4.length]; exact k1, ?_⟩
        obtain ⟨xs, S2⟩ := S.wr q h1 h4.dropLast
        exact p F _ _ xs (S2.put (k2.up (Up.wr (.inr (.inl h2)))) j)
/-- x.extend(y) -/
def extS (i : Nat) (m : M D) : MS := fun e g => match e[i]? with
  | some (.own ds) => (m e g).toS fun d g1 => match d with
    | .lst zs => if ds.length + zs.length ≤ 16777216 then .nx (e.set i (.own (ds ++ zs))) g1 else .bad
    | _ => .bad
  | _ => .bad
theorem es_ext {i : Nat} (h0 : PE X a (tBM X.K "list" rExtend (tVar i) (tCons (tM W E ma) tNil))) (hs : swapsWith a none pos.line X.env = pure false := by rfl) : PS X (.Expr a pos) (tMS W E (extS i ma)) := weakS (ps_expr h0 hs) fun D0 σ H ⟨F, e, g, S, p⟩ => by
  unfold extS at p
  cases q : e[i]? with
  | none => rw [q] at p; exact p.elim
  | some sl =>
    rw [q] at p
    cases sl with
    | no => exact p.elim
    | v d => exact p.elim
    | own ds =>
      obtain ⟨l, vs, h1, h2, h3, h4⟩ := S.owns i ds q
      refine ⟨_, h1, ty_list h3, F, e, g, S, p.toS.mono fun d g1 F1 H1 x1 c1 k v r => ?_⟩
      have S1 := S.step x1 c1
      obtain ⟨l', vs', k1, k2, k3, k4⟩ := S1.owns i ds q
      have e1 : l' = l := by rw [h1] at k1; cases k1; rfl
      subst e1
      cases d <;> try exact k.elim
      rename_i zs
      simp only at k
      split at k
      · rename_i hl
        obtain ⟨b, us, rfl, t, _, rr⟩ := r
        refine ⟨l', b, vs', us, rfl, rfl, k3, t, by rw [sizeLine_eq, ← k4.length, ← rr.length]; exact hl, ?_⟩
        obtain ⟨xs, S2⟩ := S1.wr q h1 (k4.append rr)
        exact k F1 σ _ xs S2
      · exact k.elim
/-- x[k] = e -/
def setS (i : Nat) (mi m : M D) : MS := fun e g => match e[i]? with
  | some (.own ds) => (m e g).toS fun d g1 => (mi e g1).toS fun k g2 => match k with
    | .int k => match ixN ds.length k with
      | some j => .nx (e.set i (.own (ds.set j d))) g2
      | none => .bad
    | _ => .bad
  | some (.v (.g n)) => (m e g).toS fun d g1 => (mi e g1).toS fun k g2 => match k with
    | .int k => match g2[n]? with
      | some (.lst ds) => match ixN ds.length k with
        | some j => .nx e (g2.set n (.lst (ds.set j d)))
        | none => .bad
      | _ => .bad
    | _ => .bad
  | _ => .bad
theorem es_setI (i : Nat) (hi : PE X b (tM W E mb)) (ha : PE X a (tM W E ma)) (hN : X.N[i]? = some x := by rfl) (hv : Vis X.env.scope x := by first | exact Or.inl rfl | exact Or.inr (Or.inl rfl) | exact Or.inr (Or.inr rfl)) (hd : (x == ("__debug__" : Str)) = false := by decide) (hcd : (x == ("__classdict__" : Str)) = false := by decide)
    (hsub : ∀ v, assign (.Subscript (.Name x p1) b p2) X.env v = (do
      let ov ← holding [v] (eval (.Name x p1) X.env)
      let iv ← holding [v, ov] (eval b X.env)
      standAt p2
      holding [v, ov, iv] (setItem ov iv v)
      release [v, ov, iv] []) := by intro _; rfl)
    (hs : swapsWithSole [.Subscript (.Name x p1) b p2] a pos.line X.env = pure false := by rfl) (hw : swappedStores [.Subscript (.Name x p1) b p2] a X.env = pure none := by rfl)
    (h1 : (assignEach [.Subscript (.Name x p1) b p2] X.env).map (·.2) = [assign (.Subscript (.Name x p1) b p2) X.env] := by rfl) : PS X (.Assign [.Subscript (.Name x p1) b p2] a pos) (tMS W E (setS i mb ma)) :=
  weakS (ps_asg ha (pg_sub (pe_var hN hv hd hcd) hi set_list hsub) hs hw h1) fun D0 σ H ⟨F, e, g, S, p⟩ => by
    unfold setS at p
    cases q : e[i]? with
    | none => rw [q] at p; exact p.elim
    | some sl =>
      rw [q] at p
      cases sl with
      | no => exact p.elim
      | own ds =>
        obtain ⟨l, vs, h1, h2, h3, h4⟩ := S.owns i ds q
        refine ⟨F, e, g, S, p.toS.mono fun d g1 F1 H1 x1 c1 k1 v r => ?_⟩
        have S1 := S.step x1 c1
        refine ⟨_, h1, F1, e, g1, S1, k1.toS.mono fun kd g2 F2 H2 x2 c2 k2 u ru => ?_⟩
        have S2 := S1.step x2 c2
        obtain ⟨l', vs', z1, z2, z3, z4⟩ := S2.owns i ds q
        have e1 : l' = l := by rw [h1] at z1; cases z1; rfl
        subst e1
        cases kd <;> try exact k2.elim
        rename_i kk
        cases q2 : ixN ds.length kk with
        | none => simp only [q2] at k2; exact k2.elim
        | some j =>
          simp only [q2] at k2
          refine ⟨l', vs', kk, j, rfl, ru, z3, by rw [← z4.length]; exact q2, ?_⟩
          obtain ⟨xs, S3⟩ := S2.wr q h1 (z4.set j (r.up x2.up))
          exact k2 F2 σ _ xs S3
      | v d0 =>
        cases d0 <;> try exact p.elim
        rename_i n
        obtain ⟨w, h1, l, h2, rfl⟩ := S.slots i _ q
        refine ⟨F, e, g, S, p.toS.mono fun d g1 F1 H1 x1 c1 k1 v r => ?_⟩
        have S1 := S.step x1 c1
        refine ⟨_, h1, F1, e, g1, S1, k1.toS.mono fun kd g2 F2 H2 x2 c2 k2 u ru => ?_⟩
        have S2 := S1.step x2 c2
        obtain ⟨w', z1, l', z2, rfl⟩ := S2.slots i _ q
        have e1 : l' = l := by rw [h1] at z1; cases z1; rfl
        subst e1
        cases kd <;> try exact k2.elim
        rename_i kk
        cases q3 : g2[n]? with
        | none => simp only [q3] at k2; exact k2.elim
        | some cc =>
          cases cc with
          | ob _ _ => simp only [q3] at k2; exact k2.elim
          | dct _ => simp only [q3] at k2; exact k2.elim
          | tbl _ => simp only [q3] at k2; exact k2.elim
          | lst ds =>
            simp only [q3] at k2
            obtain ⟨vs, z3, z4⟩ := c2.cel n l' _ z2 q3
            cases q2 : ixN ds.length kk with
            | none => simp only [q2] at k2; exact k2.elim
            | some j =>
              simp only [q2] at k2
              refine ⟨l', vs, kk, j, rfl, ru, z3, by rw [← z4.length]; exact q2, ?_⟩
              obtain ⟨xe, S3⟩ := S2.wrC z2 ⟨vs, z3⟩ (z4.set j (r.up x2.up))
              exact k2 F2 σ _ xe.xs S3

/-! ### name op= e -/
def augS (f : D → D → List Cell → Option D) (i : Nat) (m : M D) : MS := fun e g => match e[i]? with
  | some (.v d0) => (m e g).toS fun d g1 => match f d0 d g1 with
    | some z => .nx (e.set i (.v z)) g1
    | none => .bad
  | _ => .bad
theorem es_aug {i : Nat} {op : Operator} {r : R2} {f : D → D → List Cell → Option D} (hN : X.N.Nodup) (ho : OpR X (inplaceOp op) r) (rf : RF W f r) (ha : PE X a (tS W E ma)) (hi : X.N[i]? = some x := by rfl) (hx : Loc X.env.scope x := by first | exact Or.inl rfl | exact Or.inr rfl)
    (hf : X.fn x = true ∨ X.env.scope.names.lookup x = some .local := by first | exact .inl rfl | exact .inr rfl | assumption) : PS X (.AugAssign (.Name x p1) op a pos) (tMS W E (augS f i ma)) := weakS (ps_aug hN hi hx ha ho hf) fun D0 σ H ⟨F, e, g, S, p⟩ => by
  unfold augS at p
  cases q : e[i]? with
  | none => rw [q] at p; exact p.elim
  | some sl =>
    rw [q] at p
    cases sl with
    | no => exact p.elim
    | own ds => exact p.elim
    | v d0 =>
      obtain ⟨w, h1, h2⟩ := S.slots i _ q
      refine ⟨w, h1, F, e, g, S, p.toS.mono fun d g1 F1 H1 x1 c1 k1 v r => ?_⟩
      cases q2 : f d0 d g1 with
      | none => rw [q2] at k1; exact k1.elim
      | some z =>
        rw [q2] at k1
        refine rf F1 H1 g1 d0 d z w v _ c1 (h2.look.up x1) r q2 fun H' u kp cc rz => ?_
        exact k1 F1 _ H' (Xe.all kp).xs (((S.step x1 c1).step (.all kp) cc).put rz i)
theorem es_iadd {i : Nat} (hN : X.N.Nodup) (ha : PE X a (tS W E ma)) (hi : X.N[i]? = some x := by rfl) (hx : Loc X.env.scope x := by first | exact Or.inl rfl | exact Or.inr rfl)
    (hf : X.fn x = true ∨ X.env.scope.names.lookup x = some .local := by first | exact .inl rfl | exact .inr rfl | assumption) : PS X (.AugAssign (.Name x p1) .Add a pos) (tMS W E (augS (onI0 fun i j => .int (i + j)) i ma)) := es_aug hN iop_add (rf_int0 fun _ _ _ _ => rep_int _) ha hi hx hf

theorem es_isub {i : Nat} (hN : X.N.Nodup) (ha : PE X a (tS W E ma)) (hi : X.N[i]? = some x := by rfl) (hx : Loc X.env.scope x := by first | exact Or.inl rfl | exact Or.inr rfl)
    (hf : X.fn x = true ∨ X.env.scope.names.lookup x = some .local := by first | exact .inl rfl | exact .inr rfl | assumption) : PS X (.AugAssign (.Name x p1) .Sub a pos) (tMS W E (augS subD i ma)) := es_aug hN iop_sub (rf_int0 fun _ _ _ _ => rep_int _) ha hi hx hf
theorem es_ifdiv {i : Nat} (hN : X.N.Nodup) (ha : PE X a (tS W E ma)) (hi : X.N[i]? = some x := by rfl) (hx : Loc X.env.scope x := by first | exact Or.inl rfl | exact Or.inr rfl)
    (hf : X.fn x = true ∨ X.env.scope.names.lookup x = some .local := by first | exact .inl rfl | exact .inr rfl | assumption) : PS X (.AugAssign (.Name x p1) .FloorDiv a pos) (tMS W E (augS (onI (fun _ j => decide (0 < j ∧ j < 1073741824)) fun i j => .int (i / j)) i ma)) :=
  es_aug hN iop_fdiv (rf_int (fun i j h => (of_decide_eq_true h : 0 < j ∧ j < 1073741824)) fun _ _ _ _ => rep_int _) ha hi hx hf

/-! ### a, b = e1, e2 -/
theorem St.lay {F : Fb} {e : Env} {g : List Cell} {σ : L2.St} {H : Hp} (S : St W F e g σ H) {p : Addr} {o : HO} (np : H p = none) : St W { F with om := p :: F.om } e g σ (upd H p o) := by
  refine ⟨S.cells.own np, S.len, fun j d h => ?_, fun j ds h => ?_, S.apart⟩
  · obtain ⟨v, h1, h2⟩ := S.slots j d h
    exact ⟨v, h1, h2.up (Up.own np)⟩
  · obtain ⟨a, vs, h1, h2, h3, h4⟩ := S.owns j ds h
    exact ⟨a, vs, h1, List.mem_cons_of_mem _ h2, keep_new np _ _ h3, h4.up (Up.own np)⟩
theorem St.adopt {F : Fb} {e : Env} {g : List Cell} {σ : L2.St} {H : Hp} (S : St W F e g σ H) {ds : List D} {vs : List V} {p : Addr} (hp : p ∈ F.om) (hl : H p = some (.lst vs)) (r : RepL W F H ds vs)
    (nop : ∀ (j : Nat) (fs : List D), e[j]? = some (Slot.own fs) → σ[j]? ≠ some (some (V.ref p))) (i : Nat) : St W F (e.set i (.own ds)) g (σ.set i (some (.ref p))) H := by
  refine ⟨S.cells, by simpa using S.len, fun j d' h => ?_, fun j fs h => ?_, fun j l fs hs a n h1 h2 h3 => ?_⟩
  · rcases set_get h with ⟨rfl, q⟩ | ⟨n, q⟩
    · cases q
    · rw [List.getElem?_set_ne n]
      exact S.slots j d' q
  · rcases set_get h with ⟨rfl, q⟩ | ⟨n, q⟩
    · cases q
      have hi := slot_lt (e := e.set i (.own ds)) (σ := σ.set i (some (.ref p))) (F := F) (W := W) (g := g) (H := H) (i := i) (s := .own ds)
      have hi' : i < σ.length := by
        have := (List.getElem?_eq_some_iff.mp h).1
        rw [List.length_set] at this
        rw [← S.len]; exact this
      exact ⟨p, vs, List.getElem?_set_self hi', hp, hl, r⟩
    · rw [List.getElem?_set_ne n]
      exact S.owns j fs q
  · rcases set_get h1 with ⟨rfl, q1⟩ | ⟨n1, q1⟩
    · cases q1
      have hi' : i < σ.length := by
        have := (List.getElem?_eq_some_iff.mp h1).1
        rw [List.length_set] at this
        rw [← S.len]; exact this
      rw [List.getElem?_set_self hi'] at h3
      cases h3
      rcases set_get h2 with ⟨e2, q2⟩ | ⟨n2, q2⟩
      · exact absurd e2 n
      · rw [List.getElem?_set_ne n2]
        exact nop l hs q2
    · rw [List.getElem?_set_ne n1] at h3
      rcases set_get h2 with ⟨rfl, q2⟩ | ⟨n2, q2⟩
      · intro z
        have hi' : i < σ.length := by
          have := (List.getElem?_eq_some_iff.mp h2).1
          rw [List.length_set] at this
          rw [← S.len]; exact this
        rw [List.getElem?_set_self hi'] at z
        cases z
        exact nop j fs q1 h3
      · rw [List.getElem?_set_ne n2]
        exact S.apart j l fs hs a n q1 q2 h3
def parS (i j : Nat) (m1 m2 : M D) : MS := fun e g => (m1 e g).toS fun x g1 => (m2 e g1).toS fun y g2 => .nx ((e.set i (.v x)).set j (.v y)) g2
def parFS (i j : Nat) (m1 : M (List D)) (m2 : M D) : MS := fun e g => (m1 e g).toS fun x g1 => (m2 e g1).toS fun y g2 => .nx ((e.set i (.own x)).set j (.v y)) g2
def parSF (i j : Nat) (m1 : M D) (m2 : M (List D)) : MS := fun e g => (m1 e g).toS fun x g1 => (m2 e g1).toS fun y g2 => .nx ((e.set i (.v x)).set j (.own y)) g2
variable {pt pt2 : Pos} {kt k2 : Nat}
theorem es_par {i j : Nat} (hc : X.calm = true) (hN : X.N.Nodup) (h1 : PE X a (tM W E ma)) (h2 : PE X b (tM W E mb)) (hi : X.N[i]? = some x := by rfl) (hj : X.N[j]? = some y := by rfl) (hij : i ≠ j := by decide)
    (hx : X.env.scope.names.lookup x = some .local := by rfl) (hy : X.env.scope.names.lookup y = some .local := by rfl) (hs1 : starEach [a, b] X.env = (false, eval a X.env) :: starEach [b] X.env := by rfl) (hs2 : starEach [b] X.env = (false, eval b X.env) :: starEach [] X.env := by rfl)
    (hw : swappedStores [.Tuple [.Name x p1, .Name y p2] kt pt] (.Tuple [a, b] k2 pt2) X.env = pure (some [x, y]) := by rfl)
    (hs : swapsWithSole [.Tuple [.Name x p1, .Name y p2] kt pt] (.Tuple [a, b] k2 pt2) pos.line X.env = pure false := by rfl) :
    PS X (.Assign [.Tuple [.Name x p1, .Name y p2] kt pt] (.Tuple [a, b] k2 pt2) pos) (tMS W E (parS i j ma mb)) := weakS (ps_par hc hN hi hj hij hx hy (pa_cons h1 (pa_cons h2 pa_nil hs2) hs1) hw hs) fun D0 σ H ⟨F, e, g, S, p⟩ => by
  refine ⟨F, e, g, S, p.toS.mono fun d g1 F1 H1 x1 c1 k1 v r => ?_⟩
  refine ⟨F1, e, g1, S.step x1 c1, k1.toS.mono fun d2 g2 F2 H2 x2 c2 k2 u r2 => ?_⟩
  exact ⟨v, u, rfl, k2 F2 _ H2 .refl ((((S.step x1 c1).step x2 c2).put (r.up x2.up) i).put r2 j)⟩
theorem es_parF {i j : Nat} (hc : X.calm = true) (hN : X.N.Nodup) (h1 : PE X a (tF W E mr)) (h2 : PE X b (tM W E mb)) (hi : X.N[i]? = some x := by rfl) (hj : X.N[j]? = some y := by rfl) (hij : i ≠ j := by decide)
    (hx : X.env.scope.names.lookup x = some .local := by rfl) (hy : X.env.scope.names.lookup y = some .local := by rfl) (hs1 : starEach [a, b] X.env = (false, eval a X.env) :: starEach [b] X.env := by rfl) (hs2 : starEach [b] X.env = (false, eval b X.env) :: starEach [] X.env := by rfl)
    (hw : swappedStores [.Tuple [.Name x p1, .Name y p2] kt pt] (.Tuple [a, b] k2 pt2) X.env = pure (some [x, y]) := by rfl)
    (hs : swapsWithSole [.Tuple [.Name x p1, .Name y p2] kt pt] (.Tuple [a, b] k2 pt2) pos.line X.env = pure false := by rfl) :
    PS X (.Assign [.Tuple [.Name x p1, .Name y p2] kt pt] (.Tuple [a, b] k2 pt2) pos) (tMS W E (parFS i j mr mb)) := weakS (ps_par hc hN hi hj hij hx hy (pa_cons h1 (pa_cons h2 pa_nil hs2) hs1) hw hs) fun D0 σ H ⟨F, e, g, S, p⟩ => by
  refine ⟨F, e, g, S, p.toS.mono fun ds g1 F1 H1 x1 c1 k1 q vs nq r => ?_⟩
  have S1 := (S.step x1 c1)
  have nop : ∀ (j : Nat) (fs : List D), e[j]? = some (Slot.own fs) → σ[j]? ≠ some (some (V.ref q)) := fun j fs h z => by
    obtain ⟨l, ws, z1, z2, z3, _⟩ := S1.owns j fs h
    rw [z] at z1
    cases z1
    rw [nq] at z3; cases z3
  refine ⟨_, e, g1, S1.lay nq, (k1.on (Xs.own nq)).toS.mono fun d2 g2 F2 H2 x2 c2 k2 u r2 => ?_⟩
  have S2 := (S1.lay (o := .lst vs) nq).step x2 c2
  have hq : q ∈ F2.om := by rw [x2.om]; exact List.mem_cons_self
  have hl : H2 q = some (.lst vs) := x2.keep _ _ upd_same fun z => (c1.none nq) (.inr (.inr z))
  exact ⟨_, u, rfl, k2 F2 _ H2 .refl ((S2.adopt hq hl ((r.up (Up.own nq)).up x2.up) nop i).put r2 j)⟩
theorem es_parG {i j : Nat} (hc : X.calm = true) (hN : X.N.Nodup) (h1 : PE X a (tM W E ma)) (h2 : PE X b (tF W E mr)) (hi : X.N[i]? = some x := by rfl) (hj : X.N[j]? = some y := by rfl) (hij : i ≠ j := by decide)
    (hx : X.env.scope.names.lookup x = some .local := by rfl) (hy : X.env.scope.names.lookup y = some .local := by rfl) (hs1 : starEach [a, b] X.env = (false, eval a X.env) :: starEach [b] X.env := by rfl) (hs2 : starEach [b] X.env = (false, eval b X.env) :: starEach [] X.env := by rfl)
    (hw : swappedStores [.Tuple [.Name x p1, .Name y p2] kt pt] (.Tuple [a, b] k2 pt2) X.env = pure (some [x, y]) := by rfl)
    (hs : swapsWithSole [.Tuple [.Name x p1, .Name y p2] kt pt] (.Tuple [a, b] k2 pt2) pos.line X.env = pure false := by rfl) :
    PS X (.Assign [.Tuple [.Name x p1, .Name y p2] kt pt] (.Tuple [a, b] k2 pt2) pos) (tMS W E (parSF i j ma mr)) := weakS (ps_par hc hN hi hj hij hx hy (pa_cons h1 (pa_cons h2 pa_nil hs2) hs1) hw hs) fun D0 σ H ⟨F, e, g, S, p⟩ => by
  refine ⟨F, e, g, S, p.toS.mono fun d g1 F1 H1 x1 c1 k1 v r => ?_⟩
  refine ⟨F1, e, g1, S.step x1 c1, k1.toS.mono fun ds g2 F2 H2 x2 c2 k2 q vs nq r2 => ?_⟩
  exact ⟨v, _, rfl, k2 _ _ _ (Xs.own nq) ((((S.step x1 c1).step x2 c2).put (r.up x2.up) i).putO nq r2 j)⟩

/-! ### while -/
def whL (t : M Bool) (body : MS) : Nat → MS
  | 0 => fun _ _ => .bad
  | n + 1 => fun e g => (t e g).toS fun b g1 => if b = true then (match body e g1 with
    | .nx e2 g2 => whL t body n e2 g2
    | .ct e2 g2 => whL t body n e2 g2
    | .bk e2 g2 => .nx e2 g2
    | r => r) else .nx e g1
/-- what stands behind a turn -/
theorem SPost.turn {F : Fb} {H : Hp} {r : RS} {k : Env → List Cell → RS} {D D' : Ends} (p : SPost W E F H (match r with
    | .nx e2 g2 => k e2 g2
    | .ct e2 g2 => k e2 g2
    | .bk e2 g2 => .nx e2 g2
    | r => r) D) (hn : ∀ F' σ' H' e2 g2, Xs F F' H H' → St W F' e2 g2 σ' H' → SPost W E F' H' (k e2 g2) D → D'.nx σ' H' ∧ D'.ct σ' H') (hb : ∀ σ H, D.nx σ H → D'.bk σ H) (hr : ∀ v H, D.rt v H → D'.rt v H) : SPost W E F H r D' := by
  cases r with
  | nx e g => exact fun F2 σ2 H2 y s => (hn F2 σ2 H2 e g y s (p.on y)).1
  | bk e g => exact fun F2 σ2 H2 y s => hb _ _ (p F2 σ2 H2 y s)
  | ct e g => exact fun F2 σ2 H2 y s => (hn F2 σ2 H2 e g y s (p.on y)).2
  | rt d g => exact fun F2 H2 v y c r => hr _ _ (p F2 H2 v y c r)
  | ex c d g => exact p
  | bad => exact p
variable {body : List Stmt}
theorem es_while (n : Nat) (hp : PassesOwn (model X.prog X.w) X.A X.env X.xe) (hc : PT X c (tB W E na)) (hb : PSs X body (tMS W E s1)) : PS X (.While c body [] pos) (tMS W E (whL na s1 n)) := weakS (ps_while hp hc hb) fun D0 σ H ⟨F, e, g, S, p⟩ => by
  refine ⟨fun m σ' H' => ∃ F' e' g', St W F' e' g' σ' H' ∧ SPost W E F' H' (whL na s1 m e' g') D0, ⟨n, F, e, g, S, p⟩, ?_⟩
  rintro m σ' H' ⟨F', e', g', S', p'⟩
  cases m with
  | zero => exact p'.elim
  | succ m =>
    refine ⟨F', e', g', S', p'.toS.mono fun b g1 F1 H1 x1 c1 k => ?_⟩
    cases b with
    | false => exact k F1 σ' H1 .refl (S'.step x1 c1)
    | true =>
      refine ⟨fun σ2 H2 => ∃ F2 e2 g2, St W F2 e2 g2 σ2 H2 ∧ SPost W E F2 H2 (whL na s1 m e2 g2) D0, fun σ2 H2 h => ⟨m, Nat.lt_succ_self _, h⟩, F1, e', g1, S'.step x1 c1, ?_⟩
      exact SPost.turn k (fun F2 σ2 H2 e2 g2 _ s q => ⟨⟨F2, e2, g2, s, q⟩, ⟨F2, e2, g2, s, q⟩⟩) (fun _ _ h => h) fun _ _ h => h

/-! ### what is walked -/
/-- a walk gives the data ds, whatever the statements ahead have done -/
structure ItOk (W : Wd) (F : Fb) (H : Hp) (J : It) (ds : List D) : Prop where
  ex : ∃ (G : Hp → Prop) (Y : Nat → Hp → V → Hp → Prop), Walk J ds.length G Y ∧ (∀ F2 H2, Up F F2 H H2 → G H2) ∧
    ∀ (i : Nat) (H2 : Hp) (v : V) (H3 : Hp) (F2 : Fb) (g2 : List Cell), i < ds.length → Up F F2 H H2 → Cells W F2 H2 g2 → Y i H2 v H3 → ∃ d, ds[i]? = some d ∧ Rep W F2 H3 d v ∧ ∀ a o, H2 a = some o → H3 a = some o
def tIt (W : Wd) (E : XK) (m : M (List D)) : TI := fun σ H R => ∃ F e g, St W F e g σ H ∧ Post W E F H (m e g) fun ds _ F' H' => ∀ J, ItOk W F' H' J ds → R J H'
theorem weakI {tg iter : Expr} {t t' : TI} (h : PI X tg iter t) (w : ∀ σ H R, t' σ H R → t σ H R) : PI X tg iter t' := ⟨fun pins s σ H R I q => h.run pins s σ H R I (w σ H R q)⟩
/-- a list or a tuple -/
theorem pi_seq {tg l : Expr} {tl : TE} (hl : PE X l tl) : PI X tg l (fun σ H R => tl σ H fun v H1 => ∃ q, v = .ref q ∧ (((∃ vs, SqL X.K H1 q vs) ∧ R (Itl X.K q) H1) ∨ ((∃ vs, SqT X.K H1 q vs) ∧ R (Itt X.K q) H1))) := by
  refine ⟨fun pins s σ H R I h => ?_⟩
  refine thn (hl.run pins s σ H _ I h) fun v s1 ⟨w, H1, I1, r1, q1⟩ => ?_
  obtain ⟨q, rfl, q1⟩ := q1
  cases r1
  have fin : ∀ b ∈ [s1.heap.objs.size], FpOk X pins H1 b := fun b hb => by
    rw [List.mem_singleton.mp hb]
    exact I1.fpOk (Nat.le_refl _) (I1.hok.fresh (Nat.le_refl _))
  rcases q1 with ⟨⟨vs, hq⟩, k⟩ | ⟨⟨vs, hq⟩, k⟩
  · obtain ⟨its, _, pl, _⟩ := I1.list hq
    exact wpAny_pyIter_list pl.isList ⟨_, _, _, _, H1, rfl, I1.kept (t' := s1.toks) fun b o e => Heap.get?_push_of_some _ e, turn_list q _, ⟨_, Heap.get?_push_size _ rfl, rfl, rfl⟩, fin, k⟩
  · obtain ⟨its, _, pl, _⟩ := I1.tuple hq
    exact wpAny_pyIter_tuple (show s1.heap.IsTuple q its.toArray from pl) ⟨_, _, _, _, H1, rfl, I1.kept (t' := s1.toks) fun b o e => Heap.get?_push_of_some _ e, turn_tuple q _, ⟨_, Heap.get?_push_size _ rfl, rfl, rfl⟩, fin, k⟩
def seqIt (m : M D) : M (List D) := fun e g => (m e g).bind fun d g1 => match d with
  | .lst ds => .ok ds g1
  | .tup ds => .ok ds g1
  | _ => .bad
theorem lst_stays {F F2 : Fb} {H H2 : Hp} {a : Addr} {o : HO} (h : H a = some o) (n : ¬ F.has a) (x : Up F F2 H H2) : H2 a = some o := (x.keep a o h n).1
theorem ei_seq {tg : Expr} (hK : X.K = W.K) (ha : PE X a (tM W E ma)) : PI X tg a (tIt W E (seqIt ma)) := weakI (pi_seq ha) fun σ H R ⟨F, e, g, S, p⟩ => by
  refine ⟨F, e, g, S, (Post.bind p).mono fun d g1 F1 H1 x1 c1 k v r => ?_⟩
  cases d <;> try exact k.elim
  · rename_i ds
    obtain ⟨q, vs, rfl, t, rr⟩ := r
    refine ⟨q, rfl, .inr ⟨⟨vs, by rw [hK]; exact t.seq⟩, k F1 H1 .refl c1 _ ⟨_, _, by rw [rr.length]; exact walk_tup, fun F2 H2 x => by rw [hK]; exact (t.up x).seq, ?_⟩⟩⟩
    intro i H2 u H3 F2 g2 hi x c ⟨e1, y⟩
    obtain ⟨d, h1, h2⟩ := rr.get' y
    exact ⟨d, h1, by rw [e1]; exact h2.up x, fun _ _ h => by rw [e1]; exact h⟩
  · rename_i ds
    obtain ⟨q, vs, rfl, t, n, rr⟩ := r
    refine ⟨q, rfl, .inl ⟨⟨vs, .of t⟩, k F1 H1 .refl c1 _ ⟨_, _, by rw [rr.length]; exact walk_list, fun F2 H2 x => SqL.of (lst_stays t n x), ?_⟩⟩⟩
    intro i H2 u H3 F2 g2 hi x c ⟨e1, y⟩
    obtain ⟨d, h1, h2⟩ := rr.get' y
    exact ⟨d, h1, by rw [e1]; exact h2.up x, fun _ _ h => by rw [e1]; exact h⟩
def rngL (lo : Int) (n : Nat) : List D := (List.range n).map fun i => .int (lo + (i : Nat))
theorem rng_ok {F : Fb} {H : Hp} (lo : Int) (n : Nat) : ItOk W F H (Itr lo n) (rngL lo n) := by
  refine ⟨fun _ => True, _, by rw [show (rngL lo n).length = n by simp [rngL]]; exact walk_range, fun _ _ _ => trivial, ?_⟩
  intro i H2 u H3 F2 g2 hi x c ⟨e1, y⟩
  have hn : i < n := by simpa [rngL] using hi
  refine ⟨.int (lo + (i : Nat)), by simp [rngL, hn], ?_, fun _ _ h => by rw [e1]; exact h⟩
  rw [y]; exact rep_int _
def rngIt (m : M (List D)) : M (List D) := fun e g => (m e g).bind fun ds g1 => match ds with
  | [.int n] => if -4611686018427387904 ≤ n ∧ n < 4611686018427387904 then .ok (rngL 0 n.toNat) g1 else .bad
  | _ => .bad
def rng2It (m : M (List D)) : M (List D) := fun e g => (m e g).bind fun ds g1 => match ds with
  | [.int i, .int j] => if (-4611686018427387904 ≤ i ∧ i < 4611686018427387904) ∧ -4611686018427387904 ≤ j ∧ j < 4611686018427387904 then .ok (rngL i (j - i).toNat) g1 else .bad
  | _ => .bad
theorem ei_range1 {tg : Expr} (hg : Gl X "range") (hm : X.mg "range" = none) (ha : PA X [a] (tLs W E mr)) (hs : starEach [a] X.env = [(false, eval a X.env)] := by rfl) : PI X tg (.Call (.Name "range" p1) [a] [] pos) (tIt W E (rngIt mr)) :=
  weakI (pi_range1 hg hm ha hs) fun σ H R ⟨F, e, g, S, p⟩ => by
    refine ⟨F, e, g, S, (Post.bind p).mono fun ds g1 F1 H1 x1 c1 k vs r => ?_⟩
    cases ds with
    | nil => exact k.elim
    | cons d ds =>
      cases ds with
      | cons _ _ => cases d <;> exact k.elim
      | nil =>
        obtain ⟨v, rfl, rv⟩ := look1 r
        cases d <;> try exact k.elim
        rename_i n
        simp only at k
        split at k
        · rename_i hb
          cases (show v = .int n from rv)
          exact ⟨n, rfl, by omega, by omega, k F1 H1 .refl c1 _ (rng_ok 0 _)⟩
        · exact k.elim
theorem ei_range2 {tg : Expr} (hg : Gl X "range") (hm : X.mg "range" = none) (ha : PA X [a, b] (tLs W E mr)) (hs : starEach [a, b] X.env = [(false, eval a X.env), (false, eval b X.env)] := by rfl) (hs2 : starEach [b] X.env = [(false, eval b X.env)] := by rfl) :
    PI X tg (.Call (.Name "range" p1) [a, b] [] pos) (tIt W E (rng2It mr)) :=
  weakI (pi_range2 hg hm ha hs hs2) fun σ H R ⟨F, e, g, S, p⟩ => by
    refine ⟨F, e, g, S, (Post.bind p).mono fun ds g1 F1 H1 x1 c1 k vs r => ?_⟩
    cases ds with
    | nil => exact k.elim
    | cons d ds =>
      cases ds with
      | nil => cases d <;> exact k.elim
      | cons d2 ds =>
        cases ds with
        | cons _ _ => cases d <;> cases d2 <;> exact k.elim
        | nil =>
          obtain ⟨v, u, rfl, rv, ru⟩ := look2 r
          cases d <;> try exact k.elim
          cases d2 <;> try exact k.elim
          rename_i i j
          simp only at k
          split at k
          · rename_i hb
            cases (show v = .int i from rv)
            cases (show u = .int j from ru)
            exact ⟨i, j, rfl, by omega, k F1 H1 .refl c1 _ (rng_ok i _)⟩
          · exact k.elim
/-- pairs of two walks -/
theorem pair_rep {F2 : Fb} {H2 : Hp} {g2 : List Cell} (c : Cells W F2 H2 g2) {T : Addr} (nT : H2 T = none) {d1 d2 : D} {v1 v2 : V} (r1 : Rep W F2 H2 d1 v1) (r2 : Rep W F2 H2 d2 v2) : Rep W F2 (upd H2 T (.tup [v1, v2])) (.tup [d1, d2]) (.ref T) :=
  tup_new c nT (show RepL W F2 H2 [d1, d2] [v1, v2] from ⟨v1, [v2], rfl, r1, v2, [], rfl, r2, rfl⟩)
def zipL (xs ys : List D) : List D := (xs.zip ys).map fun p => .tup [p.1, p.2]
def zipIt (m : M (List D)) : M (List D) := fun e g => (m e g).bind fun ds g1 => match ds with
  | [.lst xs, .lst ys] => .ok (zipL xs ys) g1
  | [.tup xs, .tup ys] => .ok (zipL xs ys) g1
  | _ => .bad
theorem zip_at {xs ys : List D} {i : Nat} {d1 d2 : D} (h1 : xs[i]? = some d1) (h2 : ys[i]? = some d2) : (zipL xs ys)[i]? = some (.tup [d1, d2]) := by
  unfold zipL
  rw [List.getElem?_map, (List.getElem?_zip_eq_some (z := (d1, d2))).mpr ⟨h1, h2⟩]; rfl
theorem rep1 {F : Fb} {H : Hp} {d : D} {vs : List V} (h : RepL W F H [d] vs) : ∃ v, vs = [v] ∧ Rep W F H d v := by
  obtain ⟨v, r, rfl, h1, h2⟩ := h
  cases (show r = [] from h2)
  exact ⟨v, rfl, h1⟩
theorem rep2 {F : Fb} {H : Hp} {d e : D} {vs : List V} (h : RepL W F H [d, e] vs) : ∃ v u, vs = [v, u] ∧ Rep W F H d v ∧ Rep W F H e u := by
  obtain ⟨v, r, rfl, h1, h2⟩ := h
  obtain ⟨u, rfl, h3⟩ := rep1 h2
  exact ⟨v, u, rfl, h1, h3⟩
theorem walk_zipT {K : PySem.W.Frag} {q1 q2 : Addr} {xs ys : List V} {n : Nat} (hn : n = min xs.length ys.length) : Walk (ItzT K q1 q2) n (fun H => SqT K H q1 xs ∧ SqT K H q2 ys) (YPair (fun i => xs[i]?) (fun i => ys[i]?)) := by
  subst hn
  refine ⟨fun i _ hi q => ?_, fun _ q => ⟨xs, ys, q.1, q.2, by omega⟩, fun i H v H' _ q z => ?_⟩
  · have l1 : i < xs.length := by omega
    have l2 : i < ys.length := by omega
    exact ⟨xs, ys, xs[i], ys[i], q.1, q.2, by simp [l1], by simp [l2]⟩
  · obtain ⟨T, u, w, h1, h2, h3, h4, h5⟩ := z
    exact ⟨T, u, w, h1, h2, h3, h4 xs q.1, h5 ys q.2⟩
theorem ei_zip {elts : List Expr} {kk : Nat} {tpos : Pos} (hK : X.K = W.K) (hg : Gl X "zip") (hm : X.mg "zip" = none) (ha : PA X [a, b] (tL W E mr)) (hs : starEach [a, b] X.env = (false, eval a X.env) :: starEach [b] X.env := by rfl) (hpl : (backTo pos (starEach [b] X.env)).any (·.1) = false := by rfl) :
    PI X (.Tuple elts kk tpos) (.Call (.Name "zip" p1) [a, b] [] pos) (tIt W E (zipIt mr)) :=
  weakI (pi_zipA hg hm ha hs hpl) fun σ H R ⟨F, e, g, S, p⟩ => by
    refine ⟨F, e, g, S, (Post.bind p).mono fun ds g1 F1 H1 x1 c1 k vs r => ?_⟩
    cases ds with
    | nil => exact k.elim
    | cons d ds =>
      cases ds with
      | nil => cases d <;> exact k.elim
      | cons d2 ds =>
        cases ds with
        | cons _ _ => cases d <;> cases d2 <;> exact k.elim
        | nil =>
          obtain ⟨v, u, rfl, rv, ru⟩ := rep2 r
          cases d <;> try exact k.elim
          · cases d2 <;> try exact k.elim
            rename_i xs ys
            obtain ⟨q1, us, rfl, t1, r1⟩ := rv
            obtain ⟨q2, ws, rfl, t2, r2⟩ := ru
            refine ⟨q1, q2, us, ws, rfl, .inr ⟨by rw [hK]; exact t1.seq, by rw [hK]; exact t2.seq, k F1 H1 .refl c1 _ ⟨_, _, walk_zipT (by unfold zipL; rw [List.length_map, List.length_zip, r1.length, r2.length]), fun F2 H2 x => by rw [hK]; exact ⟨(t1.up x).seq, (t2.up x).seq⟩, ?_⟩⟩⟩
            intro i H2 w H3 F2 g2 hi x c ⟨T, z1, z2, e1, e2, e3, e4, e5⟩
            obtain ⟨d1, h1, k1⟩ := r1.get' e4
            obtain ⟨d2, h2, k2⟩ := r2.get' e5
            rw [e1, e3]
            exact ⟨_, zip_at h1 h2, pair_rep c e2 (k1.up x) (k2.up x), keep_new e2⟩
          · cases d2 <;> try exact k.elim
            rename_i xs ys
            obtain ⟨q1, us, rfl, t1, n1, r1⟩ := rv
            obtain ⟨q2, ws, rfl, t2, n2, r2⟩ := ru
            refine ⟨q1, q2, us, ws, rfl, .inl ⟨.of t1, .of t2, k F1 H1 .refl c1 _ ⟨_, _, walk_zip (by unfold zipL; rw [List.length_map, List.length_zip, r1.length, r2.length]), fun F2 H2 x => ⟨.of (lst_stays t1 n1 x), .of (lst_stays t2 n2 x)⟩, ?_⟩⟩⟩
            intro i H2 w H3 F2 g2 hi x c ⟨T, z1, z2, e1, e2, e3, e4, e5⟩
            obtain ⟨d1, h1, k1⟩ := r1.get' e4
            obtain ⟨d2, h2, k2⟩ := r2.get' e5
            rw [e1, e3]
            exact ⟨_, zip_at h1 h2, pair_rep c e2 (k1.up x) (k2.up x), keep_new e2⟩

/-! ### for -/
def forL (tg : D → Env → Option Env) (body : MS) : List D → MS
  | [] => fun e g => .nx e g
  | d :: ds => fun e g => match tg d e with
    | none => .bad
    | some e1 => match body e1 g with
      | .nx e2 g2 => forL tg body ds e2 g2
      | .ct e2 g2 => forL tg body ds e2 g2
      | .bk e2 g2 => .nx e2 g2
      | r => r
def forS (it : M (List D)) (tg : D → Env → Option Env) (body : MS) : MS := fun e g => (it e g).toS fun ds g1 => forL tg body ds e g1
theorem drop_at {ds : List D} {i : Nat} {d : D} (h : ds[i]? = some d) : ds.drop i = d :: ds.drop (i + 1) := by
  obtain ⟨hi, e⟩ := List.getElem?_eq_some_iff.mp h
  rw [List.drop_eq_getElem_cons hi, e]
variable {f : D → Env → Option Env} {v1 : List Nat} {tg : Expr}
theorem St.kept {F : Fb} {e : Env} {g : List Cell} {σ : L2.St} {H H' : Hp} (S : St W F e g σ H) (k : ∀ a o, H a = some o → H' a = some o) : St W F e g σ H' := S.step (.all k) (S.cells.stay k)
theorem es_for (hp : PassesOwn (model X.prog X.w) X.A X.env X.xe) (hc : X.calm = true) (hi : PI X tg a (tIt W E mr)) (hg : PG X tg (tG W f v1)) (hb : PSs X body (tMS W E s1)) (hs : ∀ x, foldedSetIterable a X.env x = pure x := by intro _; rfl) :
    PS X (.For tg a body [] pos) (tMS W E (forS mr f s1)) := weakS (ps_for hp hc hi hg hb hs) fun D0 σ H ⟨F, e, g, S, p⟩ => by
  refine ⟨F, e, g, S, p.toS.mono fun ds g1 F1 H1 x1 c1 k J hJ => ?_⟩
  obtain ⟨G, Y, hw, hG, hY⟩ := hJ
  refine for_it hw (fun i σ' H' => ∃ F' e' g', Xs F1 F' H1 H' ∧ St W F' e' g' σ' H' ∧ SPost W E F' H' (forL f s1 (ds.drop i) e' g') D0) ⟨F1, e, g1, .refl, S.step x1 c1, k⟩ ?_ ?_ ?_
  · rintro i σ' H' _ ⟨F', _, _, x, _, _⟩
    exact hG F' H' x.up
  · rintro i v σ' H' H'' hi ⟨F', e', g', x, S', p'⟩ y
    obtain ⟨d, h1, h2, h3⟩ := hY i H' v H'' F' g' hi x.up S'.cells y
    rw [drop_at h1] at p'
    have S2 := S'.kept h3
    have x2 : Xs F' F' H' H'' := (Xe.all h3).xs
    have p2 := p'.on x2
    unfold forL at p2
    cases q : f d e' with
    | none => simp only [q] at p2; exact p2.elim
    | some e1 =>
      simp only [q] at p2
      refine ⟨F', e', g', d, e1, S2, h2, q, fun σ2 S3 _ => ⟨F', e1, g', S3, ?_⟩⟩
      exact SPost.turn p2 (fun F3 σ3 H3 e3 g3 x3 s3 q3 => ⟨⟨F3, e3, g3, (x.trans x2).trans x3, s3, q3⟩, ⟨F3, e3, g3, (x.trans x2).trans x3, s3, q3⟩⟩) (fun _ _ h => h) fun _ _ h => h
  · rintro σ' H' ⟨F', e', g', x, S', p'⟩
    rw [List.drop_length] at p'
    exact p' F' σ' H' .refl S'

/-! ### comprehensions -/
def R.noex {α : Type} (r : R α) : R α := match r with
  | .ok a g => .ok a g
  | _ => .bad
@[simp] theorem R.noex_ok {α : Type} (a : α) (g : List Cell) : (R.ok a g).noex = R.ok a g := rfl
def wipeE : Env → List Nat → Env
  | e, [] => e
  | e, v :: vs => (wipeE e vs).set v .no
def lcL (tg : D → Env → Option Env) (t : M Bool) (elt : M D) (e : Env) : List D → List Cell → R (List D)
  | [], g => .ok [] g
  | d :: ds, g => match tg d e with
    | none => .bad
    | some e1 => (t e1 g).noex.bind fun b g1 => if b = true then (elt e1 g1).noex.bind fun y g2 => (lcL tg t elt e ds g2).bind fun r g3 => .ok (y :: r) g3 else lcL tg t elt e ds g1
/-- the list's length must fit -/
def lcM (it : M (List D)) (tg : D → Env → Option Env) (t : M Bool) (elt : M D) (own : List Nat) : M (List D) := fun e g => (it e g).bind fun ds g1 => if ds.length ≤ 16777216 then lcL tg t elt (wipeE e own) ds g1 else .bad
def yesB : M Bool := fun _ g => .ok true g
theorem St.wipe {F : Fb} {e : Env} {g : List Cell} {σ : L2.St} {H : Hp} (S : St W F e g σ H) : ∀ ws : List Nat, St W F (wipeE e ws) g (L2.wipe σ ws) H
  | [] => S
  | w :: ws => by
    have S1 := St.wipe S ws
    refine ⟨S1.cells, by simpa [wipeE, L2.wipe] using S1.len, fun j d h => ?_, fun j ds h => ?_, fun j l fs hs b n k1 k2 k3 => ?_⟩
    · rcases set_get h with ⟨_, q⟩ | ⟨n, q⟩
      · cases q
      · show ∃ v, ((L2.wipe σ ws).set w none)[j]? = some (some v) ∧ _
        rw [List.getElem?_set_ne n]
        exact S1.slots j d q
    · rcases set_get h with ⟨_, q⟩ | ⟨n, q⟩
      · cases q
      · show ∃ a vs, ((L2.wipe σ ws).set w none)[j]? = some (some (.ref a)) ∧ _
        rw [List.getElem?_set_ne n]
        exact S1.owns j ds q
    · rcases set_get k1 with ⟨_, q⟩ | ⟨n1, q1⟩
      · cases q
      · rcases set_get k2 with ⟨_, q⟩ | ⟨n2, q2⟩
        · cases q
        · have k3' : ((L2.wipe σ ws).set w none)[j]? = some (some (.ref b)) := k3
          show ((L2.wipe σ ws).set w none)[l]? ≠ _
          rw [List.getElem?_set_ne n1] at k3'
          rw [List.getElem?_set_ne n2]
          exact S1.apart j l fs hs b n q1 q2 k3'
theorem wipe_wipe (σ : L2.St) : ∀ ws : List Nat, L2.wipe (L2.wipe σ ws) ws = L2.wipe σ ws := by
  intro ws
  have : ∀ vs : List Nat, (∀ v ∈ vs, v ∈ ws) → L2.wipe (L2.wipe σ vs) ws = L2.wipe σ ws := by
    intro vs
    induction vs with
    | nil => intro _; rfl
    | cons v vs ih =>
      intro h
      show L2.wipe ((L2.wipe σ vs).set v none) ws = _
      rw [wipe_set (h v List.mem_cons_self)]
      exact ih fun u hu => h u (List.mem_cons_of_mem _ hu)
  exact this ws fun _ h => h
/-- the heap without one object -/
def cut (H : Hp) (p : Addr) : Hp := fun b => if b = p then none else H b
theorem cut_same {H : Hp} {p : Addr} : cut H p p = none := by unfold cut; rw [if_pos rfl]
theorem cut_ne {H : Hp} {p b : Addr} (h : b ≠ p) : cut H p b = H b := by unfold cut; rw [if_neg h]
theorem cut_upd {H : Hp} {p : Addr} {o : HO} : cut (upd H p o) p = cut H p := by
  funext b
  by_cases h : b = p
  · rw [h, cut_same, cut_same]
  · rw [cut_ne h, cut_ne h, upd_ne h]
theorem upd_cut {H : Hp} {p : Addr} {o : HO} (h : H p = some o) : upd (cut H p) p o = H := by
  funext b
  by_cases q : b = p
  · rw [q, upd_same, h]
  · rw [upd_ne q, cut_ne q]
theorem cut_none {H : Hp} {p : Addr} (h : H p = none) : cut H p = H := by
  funext b
  by_cases q : b = p
  · rw [q, cut_same, h]
  · rw [cut_ne q]
theorem cut_some {H : Hp} {p b : Addr} {o : HO} (h : cut H p b = some o) : b ≠ p ∧ H b = some o := by
  by_cases q : b = p
  · rw [q, cut_same] at h; cases h
  · rw [cut_ne q] at h; exact ⟨q, h⟩
/-- with p among the callers' own -/
abbrev Fb.wi (F : Fb) (p : Addr) : Fb := { F with nu := p :: F.nu }
theorem wi_has {F : Fb} {p a : Addr} : (F.wi p).has a ↔ a = p ∨ F.has a := by
  constructor
  · rintro (h | h | h)
    · rcases List.mem_cons.mp h with h | h
      · exact .inl h
      · exact .inr (.inl h)
    · exact .inr (.inr (.inl h))
    · exact .inr (.inr (.inr h))
  · rintro (rfl | h | h | h)
    · exact .inl List.mem_cons_self
    · exact .inl (List.mem_cons_of_mem _ h)
    · exact .inr (.inl h)
    · exact .inr (.inr h)
theorem Up.wi {F : Fb} {H : Hp} {p : Addr} : Up F (F.wi p) (cut H p) H := ⟨fun a o e n => by
  obtain ⟨h1, h2⟩ := cut_some e
  exact ⟨h2, fun z => (wi_has.mp z).elim h1 n⟩, [], by simp⟩
theorem St.wi {F : Fb} {e : Env} {g : List Cell} {σ : L2.St} {H : Hp} {p : Addr} {o : HO} (S : St W F e g σ (cut H p)) (hp : H p = some o) : St W (F.wi p) e g σ H := by
  have np : ¬ F.has p := S.cells.none cut_same
  have tr : ∀ a u, cut H p a = some u → H a = some u := fun a u h => (cut_some h).2
  refine ⟨⟨S.cells.nd, S.cells.len, fun n a x h1 h2 => (S.cells.cel n a x h1 h2).up Up.wi ?_, fun a z => ?_, fun a h => ⟨fun z => ?_, (S.cells.dj a h).2⟩, fun a h z => ?_⟩, S.len, fun j d h => ?_, fun j ds h => ?_, S.apart⟩
  · exact (cut_ne (fun z => np (.inr (.inr (by rw [← z]; exact List.mem_of_getElem? h1))))).symm
  · rcases wi_has.mp z with z | z
    · exact ⟨o, by rw [z]; exact hp⟩
    · obtain ⟨u, q⟩ := S.cells.tr a z
      exact ⟨u, tr a u q⟩
  · rcases List.mem_cons.mp z with z | z
    · exact np (.inr (.inr (by rw [← z]; exact h)))
    · exact (S.cells.dj a h).1 z
  · rcases List.mem_cons.mp z with z | z
    · exact np (.inr (.inl (by rw [← z]; exact h)))
    · exact S.cells.dj2 a h z
  · obtain ⟨v, h1, h2⟩ := S.slots j d h
    exact ⟨v, h1, h2.up Up.wi⟩
  · obtain ⟨a, vs, h1, h2, h3, h4⟩ := S.owns j ds h
    exact ⟨a, vs, h1, h2, tr a _ h3, h4.up Up.wi⟩
theorem Up.wo {F : Fb} {H : Hp} {p : Addr} : Up (F.wi p) F H (cut H p) := ⟨fun a o e n => by
  have h1 : a ≠ p := fun z => n (wi_has.mpr (.inl z))
  exact ⟨by rw [cut_ne h1]; exact e, fun z => n (wi_has.mpr (.inr z))⟩, [], by simp⟩
/-- behind an expression that ran beside the list at p -/
theorem Xe.wo {F F2 : Fb} {H H2 : Hp} {p : Addr} {g2 : List Cell} {o : HO} (hp : H p = some o) (x : Xe (F.wi p) F2 H H2) (c : Cells W F2 H2 g2) (nf : p ∉ F.nu) :
    ∃ F3, F2 = F3.wi p ∧ Xe F F3 (cut H p) (cut H2 p) ∧ Cells W F3 (cut H2 p) g2 ∧ H2 p = some o := by
  have hnu : F2.nu = p :: F.nu := x.nu
  have e2 : F2 = ({ F2 with nu := F.nu } : Fb).wi p := by
    obtain ⟨a, b, d⟩ := F2
    have : a = p :: F.nu := hnu
    subst this
    rfl
  have hpn : p ∈ F2.nu := by rw [hnu]; exact List.mem_cons_self
  have nth : p ∉ F2.th := fun z => (c.dj p z).1 hpn
  have nom : p ∉ F2.om := fun z => c.dj2 p z hpn
  have n3 : ∀ a, ({ F2 with nu := F.nu } : Fb).has a → a ≠ p := fun a z w => by
    subst w
    rcases z with z | z | z
    · exact nf z
    · exact nom z
    · exact nth z
  refine ⟨{ F2 with nu := F.nu }, e2, ⟨fun a u h n => ?_, fun a u h => ?_, ?_, rfl, x.om⟩, ?_, ?_⟩
  · obtain ⟨h1, h2⟩ := cut_some h
    rw [cut_ne h1]
    exact x.keep a u h2 n
  · obtain ⟨h1, h2⟩ := cut_some h
    obtain ⟨u', k⟩ := x.st a u h2
    exact ⟨u', by rw [cut_ne h1]; exact k⟩
  · obtain ⟨m, h1, h2⟩ := x.th
    refine ⟨m, h1, fun a ha => ?_⟩
    have := h2 a ha
    by_cases q : a = p
    · rw [q]; exact cut_same
    · rw [cut_ne q]; exact this
  · have up : Up F2 { F2 with nu := F.nu } H2 (cut H2 p) := by
      have := Up.wo (F := { F2 with nu := F.nu }) (H := H2) (p := p)
      rw [← e2] at this
      exact this
    refine ⟨c.nd, c.len, fun n a y h1 h2 => (c.cel n a y h1 h2).up up (cut_ne fun z => nth (by rw [← z]; exact List.mem_of_getElem? h1)), fun a z => ?_, fun a h => ⟨fun z => (c.dj a h).1 (by rw [hnu]; exact List.mem_cons_of_mem _ z), (c.dj a h).2⟩, fun a h z => c.dj2 a h (by rw [hnu]; exact List.mem_cons_of_mem _ z)⟩
    have ha : F2.has a := by rw [e2]; exact wi_has.mpr (.inr z)
    obtain ⟨u, q⟩ := c.tr a ha
    exact ⟨u, by rw [cut_ne (n3 a z)]; exact q⟩
  · exact x.keep p o hp fun z => nth (by
      obtain ⟨m, h1, _⟩ := x.th
      rw [h1]
      exact List.mem_append_left _ z)
theorem post_noex {α β : Type} {F : Fb} {H : Hp} {r : R α} {f : α → List Cell → R β} {k : β → List Cell → Fb → Hp → Prop} (p : Post W E F H (r.noex.bind f) k) : ∃ y g2, r = .ok y g2 ∧ Post W E F H (f y g2) k := by
  cases r with
  | ok y g2 => exact ⟨y, g2, rfl, p⟩
  | ex c d g => exact p.elim
  | bad => exact p.elim
theorem bind_assoc {α β γ : Type} (r : R α) (f : α → List Cell → R β) (h : β → List Cell → R γ) : (r.bind f).bind h = r.bind fun a g => (f a g).bind h := by
  cases r <;> rfl
variable {elt iter : Expr} {ifs : List Expr} {scope : Scope} {own : List (Str × Nat)}
theorem r_lc (hv : ∀ i ∈ v1, i ∈ own.map (·.2)) {σ : L2.St} {H : Hp} {Q : VK} (h : tF W E (lcM mr f na ma (own.map (·.2))) σ H Q) : tLc (tIt W E mr) (tG W f v1) (tB W (fun _ _ _ => False) na) (tM W (fun _ _ _ => False) ma) (own.map (·.2)) σ H Q := by
  obtain ⟨F, e, g, S, p⟩ := h
  refine ⟨F, e, g, S, (Post.bind p).mono fun ds g1 F1 H1 x1 c1 k J hJ => ?_⟩
  intro q nq
  split at k
  case isFalse => exact k.elim
  rename_i hlen
  obtain ⟨G, Y, hw, hG, hY⟩ := hJ
  have S1 := S.step x1 c1
  have Sw := S1.wipe (own.map (·.2))
  have nF1 : ¬ F1.has q := c1.none nq
  refine lc_it hw (fun i H' => i ≤ ds.length ∧ ∃ F' g' acc vs, Xe F1 F' H1 (cut H' q) ∧ Cells W F' (cut H' q) g' ∧ H' q = some (.lst vs) ∧ RepL W F' (cut H' q) acc vs ∧ acc.length ≤ i ∧
    Post W E F' (cut H' q) ((lcL f na ma (wipeE e (own.map (·.2))) (ds.drop i) g').bind fun r g3 => .ok (acc ++ r) g3) fun ds' _ F'' H'' => ∀ p vs, H'' p = none → RepL W F'' H'' ds' vs → Q (.ref p) (upd H'' p (.lst vs))) ?_ ?_ ?_ ?_
  · refine ⟨Nat.zero_le _, F1, g1, [], [], ?_, ?_, upd_same, rfl, Nat.le_refl _, ?_⟩
    · rw [cut_upd, cut_none nq]; exact .refl
    · rw [cut_upd, cut_none nq]; exact c1
    · rw [cut_upd, cut_none nq]
      have : ((lcL f na ma (wipeE e (own.map (·.2))) (ds.drop 0) g1).bind fun r g3 => R.ok ([] ++ r) g3) = lcL f na ma (wipeE e (own.map (·.2))) ds g1 := by
        rw [List.drop_zero]
        cases lcL f na ma (wipeE e (own.map (·.2))) ds g1 <;> rfl
      rw [this]
      exact k
  · rintro i H' _ ⟨_, F', g', acc, vs, x, c, hq, r, hl, k⟩
    refine hG F' H' ⟨fun a o h n => ?_, let ⟨m, e, _⟩ := x.th; ⟨m, e⟩⟩
    obtain ⟨k1, k2⟩ := x.up.keep a o h n
    exact ⟨(cut_some k1).2, k2⟩
  · rintro i v H' H'' hi ⟨hil, F', g', acc, vs, x, c, hq, r, hl, k⟩ y
    have Sc : St W F' (wipeE e (own.map (·.2))) g' (L2.wipe σ (own.map (·.2))) (cut H' q) := Sw.step x c
    have Si := Sc.wi hq
    have up : Up F1 (F'.wi q) H1 H' := ⟨fun a o h n => by
      obtain ⟨k1, k2⟩ := x.up.keep a o h n
      obtain ⟨k3, k4⟩ := cut_some k1
      exact ⟨k4, fun z => (wi_has.mp z).elim k3 k2⟩, let ⟨m, e, _⟩ := x.th; ⟨m, e⟩⟩
    obtain ⟨d, h1, h2, h3⟩ := hY i H' v H'' (F'.wi q) g' hi up Si.cells y
    have S2 := Si.kept h3
    have hq2 : H'' q = some (.lst vs) := h3 q _ hq
    rw [drop_at h1] at k
    unfold lcL at k
    cases qf : f d (wipeE e (own.map (·.2))) with
    | none => simp only [qf] at k; exact k.elim
    | some e1 =>
      simp only [qf] at k
      rw [bind_assoc] at k
      obtain ⟨b, g2, hb, k⟩ := post_noex k
      refine ⟨F'.wi q, _, g', d, e1, S2, h2, qf, fun σ2 S3 w2 => ⟨?_, ?_⟩⟩
      · rw [w2 _ hv, wipe_wipe]
      · have x0 : Xe F' F' (cut H' q) (cut H'' q) := .all fun a o h => by
          obtain ⟨z1, z2⟩ := cut_some h
          rw [cut_ne z1]; exact h3 a o z2
        have nfp : q ∉ F'.nu := fun z => by rw [x.nu] at z; exact nF1 (.inl z)
        refine ⟨F'.wi q, e1, g', S3, ?_⟩
        rw [hb]
        intro F3 H3 x3 c3
        obtain ⟨F4, rfl, x4, c4, hq4⟩ := Xe.wo hq2 x3 c3 nfp
        have x05 := x0.trans x4
        cases b with
        | false =>
          rw [if_neg Bool.false_ne_true]
          refine ⟨hi, F4, g2, acc, vs, x.trans x05, c4, hq4, r.up x05.up, Nat.le_succ_of_le hl, ?_⟩
          rw [if_neg Bool.false_ne_true] at k
          exact Post.on k x05
        | true =>
          rw [if_pos rfl]
          rw [if_pos rfl, bind_assoc] at k
          obtain ⟨yv, g3, hy, k⟩ := post_noex k
          refine ⟨F4.wi q, e1, g2, S3.step x3 c3, ?_⟩
          rw [hy]
          intro F5 H5 x5 c5 u ru
          have nfp4 : q ∉ F4.nu := by rw [x4.nu]; exact nfp
          obtain ⟨F6, rfl, x6, c6, hq6⟩ := Xe.wo hq4 x5 c5 nfp4
          have x06 := x05.trans x6
          refine ⟨vs, hq6, ?_, hi, F6, g3, acc ++ [yv], vs ++ [u], ?_, ?_, upd_same, ?_, ?_, ?_⟩
          · rw [sizeLine_eq]
            have := r.length
            omega
          · rw [cut_upd]; exact x.trans x06
          · rw [cut_upd]; exact c6
          · rw [cut_upd]
            exact (r.up x06.up).append (RepL.one (ru.up Up.wo))
          · simp only [List.length_append, List.length_singleton]; omega
          · rw [cut_upd]
            have k' := Post.on k x06
            have : (((lcL f na ma (wipeE e (own.map (·.2))) (ds.drop (i + 1)) g3).bind fun r g3 => R.ok (yv :: r) g3).bind fun r g3 => R.ok (acc ++ r) g3) = ((lcL f na ma (wipeE e (own.map (·.2))) (ds.drop (i + 1)) g3).bind fun r g3 => .ok ((acc ++ [yv]) ++ r) g3) := by
              rw [bind_assoc]
              congr 1
              funext r g3
              show R.ok (acc ++ (yv :: r)) g3 = _
              rw [List.append_assoc]; rfl
            rw [← this]
            exact k'
  · rintro H' ⟨_, F', g', acc, vs, x, c, hq, r, hl, k⟩
    rw [List.drop_length] at k
    have := k F' (cut H' q) .refl c q vs cut_same (by rw [List.append_nil]; exact r)
    rw [upd_cut hq] at this
    exact this
/-- a list comprehension, its list a new one -/
theorem ev_lc (hc : X.calm = true) (hN : X.N.Nodup) (hi : PI X tg iter (tIt W E mr)) (ok : BlkOk X.N X.env.scope scope own)
    (hg : ∀ (s : Shared) (H : Hp) (C : Addr) (cl : List (Str × Addr)) (fp : List Addr), PG (X.blk s H scope (compEnvC scope cl C X.env) fp) tg (tG W f v1))
    (ht : ∀ (s : Shared) (H : Hp) (C : Addr) (cl : List (Str × Addr)) (fp : List Addr), PTs (X.blk s H scope (compEnvC scope cl C X.env) fp) ifs (tB W (fun _ _ _ => False) na))
    (he : ∀ (s : Shared) (H : Hp) (C : Addr) (cl : List (Str × Addr)) (fp : List Addr), PE (X.blk s H scope (compEnvC scope cl C X.env) fp) elt (tM W (fun _ _ _ => False) ma))
    (hv : ∀ i ∈ v1, i ∈ own.map (·.2) := by decide) (hs : ∀ x, foldedSetIterable iter X.env x = pure x := by intro _; rfl) :
    PE X (.ListComp elt [⟨tg, iter, ifs, 0⟩] scope pos) (tF W E (lcM mr f na ma (own.map (·.2)))) := weakE (pe_lc hc hN hi ok hg ht he hs) fun _ _ _ h => r_lc hv h
theorem epts_nil : PTs X [] (tB W E yesB) := ⟨fun pins s σ H Q I ⟨F, e, g, S, p⟩ => pts_nil.run pins s σ H Q I (p F H .refl S.cells)⟩
theorem epts_one (h : PT X c (tB W E na)) : PTs X [c] (tB W E na) := pts_one h
/-- name = [..] on one line -/
theorem es_setLc {i : Nat} {sp : Pos} (hc : X.calm = true) (hN : X.N.Nodup) (hsw : swapsWith (.ListComp elt [⟨tg, iter, ifs, 0⟩] scope pos) (some (.Name y p1)) sp.line X.env = pure true) (hi : PI X tg iter (tIt W E mr)) (ok : BlkOk X.N X.env.scope scope own)
    (hg : ∀ (s : Shared) (H : Hp) (C : Addr) (cl : List (Str × Addr)) (fp : List Addr), PG (X.blk s H scope (compEnvC scope cl C X.env) fp) tg (tG W f v1))
    (ht : ∀ (s : Shared) (H : Hp) (C : Addr) (cl : List (Str × Addr)) (fp : List Addr), PTs (X.blk s H scope (compEnvC scope cl C X.env) fp) ifs (tB W (fun _ _ _ => False) na))
    (he : ∀ (s : Shared) (H : Hp) (C : Addr) (cl : List (Str × Addr)) (fp : List Addr), PE (X.blk s H scope (compEnvC scope cl C X.env) fp) elt (tM W (fun _ _ _ => False) ma))
    (hy : X.N[i]? = some y := by rfl) (hyl : X.env.scope.names.lookup y = some .local := by rfl) (hv : ∀ i ∈ v1, i ∈ own.map (·.2) := by decide) (hs : ∀ x, foldedSetIterable iter X.env x = pure x := by intro _; rfl) :
    PS X (.Assign [.Name y p1] (.ListComp elt [⟨tg, iter, ifs, 0⟩] scope pos) sp) (tMS W E (ownS (lcM mr f na ma (own.map (·.2))) i)) :=
  weakS (ps_setLc hc hN hy hyl hsw hi ok hg ht he hs) fun D0 σ H ⟨F, e, g, S, p⟩ => r_lc hv ⟨F, e, g, S, p.toS.mono fun ds g1 F1 H1 x c k q vs nq r => k _ _ _ (Xs.own nq) ((S.step x c).putO nq r i)⟩
end
end Ev

/-! Ev5: defs whose surroundings show no repr under way; their calls; a law's end; repr. -/
namespace Ev
open PySem PySem.Spec PyProof.Rows L2

/-- a def keeps a promise, called where no repr is under way -/
structure FnG (P : Program) (w : World) (K : PySem.W.Frag) (mg : Str → Option Value) (base : Heap) (CX : CXT) (k : Nat) (f : Addr) (fd : FuncData) (ps : List Str) (sp : Sp) : Prop where
  ar : ∀ vs H Q E, sp vs H Q E → vs.length = ps.length
  go : ∀ (A : Around) (out : List PySem.Env) (s : Shared) (H : Hp) (args : Args) (us : List Value) (vs : List V) (Q : VK) (E : XK),
    A.guards = some [] → Room k A → Env0 P w K mg base A out s H → BindsTo s fd args (ps.zip us) → Vals vs us → sp vs H Q E →
      codeAny (model P w) A (.call (.ref f) args) (CR CX out P w H s Q E) s
section
variable {P : Program} {w : World} {K : PySem.W.Frag} {mg : Str → Option Value} {base : Heap} {CX : CXT} {k : Nat} {f : Addr} {fd : FuncData} {ps : List Str} {sp : Sp}
theorem FnG.of (F : FnOk P w K mg base CX k f fd ps sp) : FnG P w K mg base CX k f fd ps sp :=
  ⟨F.len, fun A out s H args us vs Q E _ hr e b r h => F.run A out s H args us vs Q E hr e b r h⟩
theorem FnG.up {j : Nat} (F : FnG P w K mg base CX k f fd ps sp) (h : k ≤ j) : FnG P w K mg base CX j f fd ps sp :=
  ⟨F.ar, fun A out s H args us vs Q E hg hr => F.go A out s H args us vs Q E hg (hr.mono h)⟩
/-- by the body -/
theorem fnG_of {name qual : Str} {prm : Arguments} {body : List Stmt} {sc : Scope} {dV kV doc pm cdv ct oc : Value} {an od : Option Addr} {osl : Array (Option Value)} {N : List Str}
    (lk : K.lookup f = some ⟨oc, od, .func (PySem.W.fnOf name qual prm body sc dV kV doc pm an cdv ct), osl⟩) (hcd : PySem.W.codeIn K cdv qual = true) (S : FnScope N ps sc) (ar : ∀ vs H Q E, sp vs H Q E → vs.length = ps.length)
    (hb : ∀ (A : Around) (out : List PySem.Env) (s : Shared) (H : Hp) (vs : List V) (Q : VK) (E : XK), (A.deeper (envOfC qual sc s.heap.objs.size f cdv)).guards = some [] → Room k (A.deeper (envOfC qual sc s.heap.objs.size f cdv)) → sp vs H Q E →
      ∃ t, PSs (cxOf CX P w K mg base N qual sc f cdv A out s H E) body t ∧ t { nx := fun _ H' => Q .non H', rt := Q } (L2.start N vs) H) :
    FnG P w K mg base CX (k + 1) f (PySem.W.fnOf name qual prm body sc dV kV doc pm an cdv ct) ps sp := by
  refine ⟨ar, fun A out s H args us vs Q E hg hr e0 bt rv h => ?_⟩
  have l0 := ar _ _ _ _ h
  have KX : K.In s.heap := e0.mod.kin.keeps fun b o q => (e0.bs b o q).1
  have lim : s.heap.NoLimit := e0.mod.nolimit.keeps fun b o q => (e0.bs b o q).1
  have kinds : ∀ z ∈ ps.zip us, sc.names.lookup z.1 = some .local ∨ (sc.names.lookup z.1 = some .cell ∧ ((cellsFrom (s.heap.objs.size + 1) sc.names []).lookup z.1).isSome = true) := by
    rintro ⟨n, v⟩ hz
    rcases S.par n (List.of_mem_zip hz).1 with q | q
    · exact .inl q
    · exact .inr ⟨q, PySem.W.cellsFrom_some _ _ _ (.inl q)⟩
  refine codeAny_call_function hr.depth (KX _ _ lk) rfl S.co S.gen rfl (PySem.W.codeRec_of KX hcd) (bt _ _ _ _ ?_)
  refine wpAny_newFunctionEnv_cells S.kind kinds fun env q s1 x => ?_
  subst q
  refine ⟨lim.keeps x.toInCall.keep, codeAny_func ?_⟩
  obtain ⟨t, ht, hq⟩ := hb A out s H vs Q E (by exact hg) (hr.deeper _) h
  have I := inv_start (CX := CX) (P := P) (w := w) (K := K) (mg := mg) (base := base) (qual := qual) (f := f) (cd := cdv) (A := A) (outer := out) (E := E) S hr.hd e0 l0 rv x
  refine wpAny_mono (ht.run [] s1 (L2.start N vs) H _ I hq) (fun fl s' z => ?_) fun _ _ z => z
  cases fl with
  | next =>
    obtain ⟨_, H', J, z⟩ := z
    exact ⟨V.non, H', J.os, J.bare, J.base, J.hok, rfl, z⟩
  | ret u =>
    obtain ⟨v, _, H', J, r, z⟩ := z
    exact ⟨v, H', J.os, J.bare, J.base, J.hok, r, z⟩
  | brk => obtain ⟨_, _, _, z⟩ := z; exact z.elim
  | cont => obtain ⟨_, _, _, z⟩ := z; exact z.elim
end

/-! ### the evaluator's promise -/
@[irreducible] def fnM (n N : Nat) (body : MS) : List D → List Cell → R D := fun ds g => if ds.length = n then (match body (ds.map .v ++ List.replicate (N - n) .no) g with
  | .nx _ g1 => .ok .non g1
  | .rt d g1 => .ok d g1
  | .ex c d g1 => .ex c d g1
  | _ => .bad) else .bad
def spEv (W : Wd) (n : Nat) (f : List D → List Cell → R D) : Sp := fun vs H Q E => ∃ nu th ds g, Cells W ⟨nu, [], th⟩ H g ∧ RepL W ⟨nu, [], th⟩ H ds vs ∧ ds.length = n ∧ Post W E ⟨nu, [], th⟩ H (f ds g) fun d _ F' H' => ∀ v, Rep W F' H' d v → Q v H'
theorem spEv_len {W : Wd} {n : Nat} {f : List D → List Cell → R D} {vs : List V} {H : Hp} {Q : VK} {E : XK} (h : spEv W n f vs H Q E) : vs.length = n := by
  obtain ⟨nu, th, ds, g, _, r, hl, _⟩ := h
  rw [← r.length]; exact hl
section
variable {W : Wd} {E : XK} {F : Fb} {H : Hp} {g : List Cell}
theorem st_start {nu th : List Addr} {ds : List D} {vs : List V} {N : List Str} (c : Cells W ⟨nu, [], th⟩ H g) (r : RepL W ⟨nu, [], th⟩ H ds vs) : St W ⟨nu, [], th⟩ (ds.map .v ++ List.replicate (N.length - ds.length) .no) g (L2.start N vs) H := by
  have hl := r.length
  have no_own : ∀ (i : Nat) (fs : List D), ¬ (ds.map Slot.v ++ List.replicate (N.length - ds.length) Slot.no)[i]? = some (.own fs) := fun i fs h => by
    by_cases hi : i < ds.length
    · rw [List.getElem?_append_left (by simpa using hi), List.getElem?_map, List.getElem?_eq_getElem hi] at h
      cases h
    · rw [List.getElem?_append_right (by simpa using hi), List.getElem?_replicate] at h
      split at h <;> cases h
  refine ⟨c, by simp [L2.start, hl], fun i d h => ?_, fun i fs h => absurd h (no_own i fs), fun i j fs hs a n h => absurd h (no_own i fs)⟩
  by_cases hi : i < ds.length
  · rw [List.getElem?_append_left (by simpa using hi), List.getElem?_map, List.getElem?_eq_getElem hi] at h
    cases h
    obtain ⟨v, h1, h2⟩ := r.get (List.getElem?_eq_getElem hi)
    refine ⟨v, ?_, h2⟩
    unfold L2.start
    rw [List.getElem?_append_left (by rw [List.length_map, ← hl]; exact hi), List.getElem?_map, h1]; rfl
  · rw [List.getElem?_append_right (by simpa using hi), List.getElem?_replicate] at h
    split at h <;> cases h
theorem fn_post {nu th : List Addr} {r : RS} {Q : VK} (p : Post W E ⟨nu, [], th⟩ H (match r with
    | .nx _ g1 => R.ok .non g1
    | .rt d g1 => .ok d g1
    | .ex c d g1 => .ex c d g1
    | _ => .bad) fun d _ F' H' => ∀ v, Rep W F' H' d v → Q v H') : SPost W E ⟨nu, [], th⟩ H r { nx := fun _ H' => Q .non H', rt := Q } := by
  have key : ∀ {F' : Fb} {H' : Hp}, Xs ⟨nu, [], th⟩ F' H H' → Xe ⟨nu, [], th⟩ F'.base H H' := fun {F' H'} x =>
    ⟨fun a o h n => x.keep a o h n (by simp), x.st, x.th, x.nu, rfl⟩
  cases r with
  | nx e g1 => exact fun F' σ' H' x s => p F'.base H' (key x) s.cells.base .non rfl
  | rt d g1 => exact fun F' H' v x c r => p F'.base H' (key x) c v r
  | ex c d g1 => exact fun F' H' dx v x c r hd => p F'.base H' dx v (key x) c r hd
  | bk e g1 => exact p.elim
  | ct e g1 => exact p.elim
  | bad => exact p.elim
end
/-- a def that lets no exception out -/
theorem fn_ev {P : Program} {w : World} {mg : Str → Option Value} {base : Heap} {W : Wd} {k n m : Nat} {x qual : Str} {st : Stmt} {f : Addr} {fd : FuncData} {N ps : List Str} {body : MS} (F : Fun W.K x qual st f fd) (S : FnScope N ps (defScope st)) (hn : ps.length = n) (hm : N.length = m)
    (h : ∀ (cdv : Value) (A : Around) (out : List PySem.Env) (s : Shared) (H : Hp) (E : XK), (A.deeper (envOfC qual (defScope st) s.heap.objs.size f cdv)).guards = some [] → Room k (A.deeper (envOfC qual (defScope st) s.heap.objs.size f cdv)) →
      PSs (cxOf CX0 P w W.K mg base N qual (defScope st) f cdv A out s H E).nox (defBody st) (tMS W E body)) : FnG P w W.K mg base CX0 (k + 1) f fd ps (spEv W n (fnM n m body)) := by
  subst hn hm
  obtain ⟨oc, od, kV, doc, pm, an, cdv, ct, osl, rfl, lk, hcd⟩ := F.ex
  refine fnG_of lk hcd S (fun vs H Q E q => spEv_len q) fun A out s H vs Q E hg hr hsp => ⟨_, (h cdv A out s H E hg hr).nox, ?_⟩
  obtain ⟨nu, th, ds, g, c, r, hl, p⟩ := hsp
  have S0 := st_start (N := N) c r
  rw [hl] at S0
  unfold fnM at p
  rw [if_pos hl] at p
  exact ⟨_, _, g, S0, fn_post p⟩

/-! ### calls -/
section
variable {W : Wd} {E : XK} {X : Cx} {CX : CXT} {k n : Nat} {f : Addr} {fd : FuncData} {ps : List Str} {fs : List D → List Cell → R D} {x : Str} {p pos : Pos} {e : Expr} {es : List Expr} {mr : M (List D)} {ds : List Value} {dvs : List V}
def callM (n : Nat) (f : List D → List Cell → R D) (m : M (List D)) : M D := fun e g => (m e g).bind fun ds g1 => if ds.length = n then f ds g1 else .bad
def Fb.out (F : Fb) : Fb := ⟨F.nu ++ F.om, [], F.th⟩
theorem out_has {F : Fb} {a : Addr} : F.out.has a ↔ F.has a := by
  unfold Fb.has Fb.out
  simp only [List.mem_append, List.not_mem_nil, false_or]
  constructor
  · rintro ((h | h) | h)
    · exact .inl h
    · exact .inr (.inl h)
    · exact .inr (.inr h)
  · rintro (h | h | h)
    · exact .inl (.inl h)
    · exact .inl (.inr h)
    · exact .inr h
theorem Up.of_has {F F' : Fb} {H : Hp} (h : ∀ a, F'.has a → F.has a) (ht : F'.th = F.th) : Up F F' H H := ⟨fun a o e n => ⟨e, fun z => n (h a z)⟩, [], by rw [ht]; simp⟩
theorem Cells.out {F : Fb} {H : Hp} {g : List Cell} (c : Cells W F H g) : Cells W F.out H g :=
  c.less (fun a h => out_has.mp h) rfl (fun a h => ⟨fun z => (List.mem_append.mp z).elim (c.dj a h).1 (c.dj a h).2, by simp [Fb.out]⟩) fun a h => by cases h
/-- behind a call -/
theorem post_in {F : Fb} {H : Hp} {g : List Cell} {r : R D} {Q : VK} (c : Cells W F H g) (q : Post W E F H r fun d _ F' H' => ∀ v, Rep W F' H' d v → Q v H') : Post W E F.out H r fun d _ F' H' => ∀ v, Rep W F' H' d v → Q v H' := by
  have key : ∀ {F' : Fb} {H' : Hp} {g' : List Cell}, Xe F.out F' H H' → Cells W F' H' g' → Xe F ⟨F.nu, F.om, F'.th⟩ H H' ∧ Cells W ⟨F.nu, F.om, F'.th⟩ H' g' ∧ Up F' ⟨F.nu, F.om, F'.th⟩ H' H' := fun {F' H' g'} x c' => by
    have hh : ∀ a, (⟨F.nu, F.om, F'.th⟩ : Fb).has a → F'.has a := fun a z => by
      rcases z with z | z | z
      · exact .inl (by rw [x.nu]; exact List.mem_append_left _ z)
      · exact .inl (by rw [x.nu]; exact List.mem_append_right _ z)
      · exact .inr (.inr z)
    refine ⟨⟨x.keep, x.st, x.th, rfl, rfl⟩, c'.less hh rfl (fun a h => ?_) c.dj2, Up.of_has hh rfl⟩
    have := (c'.dj a h).1
    rw [x.nu] at this
    exact ⟨fun z => this (List.mem_append_left _ z), fun z => this (List.mem_append_right _ z)⟩
  cases r with
  | ok d g' =>
    intro F' H' x c' v rv
    obtain ⟨h1, h2, h3⟩ := key x c'
    exact q _ H' h1 h2 v (rv.up h3)
  | ex cc d g' =>
    intro F' H' dx v x c' rv hd
    obtain ⟨h1, h2, h3⟩ := key x c'
    exact q _ H' dx v h1 h2 (rv.up h3) (hd.up h3)
  | bad => exact q
theorem sp_in {F : Fb} {H : Hp} {g : List Cell} {ds : List D} {vs : List V} {Q : VK} (c : Cells W F H g) (r : RepL W F H ds vs) (q : Post W E F H (if ds.length = n then fs ds g else .bad) fun d _ F' H' => ∀ v, Rep W F' H' d v → Q v H') : spEv W n fs vs H Q E := by
  split at q
  · rename_i hl
    exact ⟨_, _, ds, g, c.out, r.up (Up.of_has (fun a h => out_has.mp h) rfl), hl, post_in c q⟩
  · exact q.elim
theorem run_fnG {sp : Sp} {pins : List (Addr × Obj)} {σ : L2.St} {H : Hp} {s : Shared} {Q : VK} {us : List Value} {vs : List V} (G : FnG X.prog X.w X.K X.mg X.base CX k f fd ps sp) (hg : X.A.guards = some []) (hr : Room k X.A) (bd : Binds X.K fd ps ds) (hd : Vals dvs ds)
    (px : Passes CX X E) (I : Inv X pins σ H s) (r : Vals vs us) (h : sp (vs ++ dvs) H Q E) : wpAny (model X.prog X.w) X.A (call (.ref f) us) (EP X pins σ Q) X.xe s := by
  have r2 := r.append hd
  have l2 : (us ++ ds).length = ps.length := r2.length.symm.trans (G.ar _ _ _ _ h)
  refine wpAny_call (codeAny_mono (G.go X.A X.stack s H ⟨us, []⟩ _ _ Q E hg hr I.env0 (bd s us I.kIn l2) r2 h) fun res s' z => ?_)
  rcases res with er | (u | _ | _ | _)
  · exact px pins σ H s er s' I z
  all_goals first
    | exact I.after z
    | exact z.elim
theorem ev_call (G : FnG X.prog X.w X.K X.mg X.base CX k f fd ps (spEv W n fs)) (hG : X.A.guards = some []) (hr : Room k X.A) (hg : Gl X x) (hm : X.mg x = some (.ref f)) (hk : PySem.W.keepIn X.K (.ref f) = true) (bd : Binds X.K fd ps []) (px : Passes CX X E)
    (ha : PA X (e :: es) (tL W E mr)) (hdb : (x == ("__debug__" : Str)) = false := by decide) (he : starEach (e :: es) X.env = (false, eval e X.env) :: starEach es X.env := by rfl) (hpl : (backTo pos (starEach es X.env)).any (·.1) = false := by rfl) :
    PE X (.Call (.Name x p) (e :: es) [] pos) (tM W E (callM n fs mr)) := by
  refine ⟨fun pins s σ H Q I ⟨F, en, g, S, q⟩ => wpAny_Call_Name_kw (ld_glob I hg hm ?_ hdb)⟩
  refine PySem.W.callWith_K (h₀ := X.base) I.ok.mod.kin hk (thn (ha.run pos pins s σ H _ I ⟨F, en, g, S, (Post.bind q).mono fun ds g1 F1 H1 x1 c1 k1 vs r => (⟨F1, ds, g1, c1, r, k1⟩ : ∃ F1 ds g1, Cells W F1 H1 g1 ∧ RepL W F1 H1 ds vs ∧ Post W E F1 H1 (if ds.length = n then fs ds g1 else .bad) fun d _ F' H' => ∀ v, Rep W F' H' d v → Q v H')⟩) fun us s1 ⟨vs, H1, I1, r, F1, ds, g1, c1, rr, k1⟩ => ⟨I1.kIn, ?_⟩) he hpl
  exact run_fnG (dvs := []) (ds := []) G hG hr bd .nil px I1 r (by rw [List.append_nil]; exact sp_in c1 rr k1)
end
/-- no exception at all -/
theorem pass00 {X : Cx} {E : XK} : Passes CX0 X E := fun _ _ _ _ _ _ _ h => h.elim

/-! ### the law's own call -/
theorem law_go {P : Program} {w : World} {W : Wd} {mg mb : Str → Option Value} {CX : CXT} {k : Nat} {fa l : Addr} {fd : FuncData} {x : Str} {fs : List D → List Cell → R D} {s : Shared} {vs : List Value} {ns : List Int}
    (KX : W.K.In s.heap) (n1 : s.heap.Ns mainGlobals mg) (n2 : s.heap.Ns builtinsNs mb) (n3 : ∀ x : Str, x ≠ "__name__" → mb x = bootBuiltins x) (n4 : s.heap.NoLimit) (n5 : s.gens = #[])
    (hl : s.heap.get? l = some { cls := .type "list", data := .seq vs.toArray }) (hi : IntsAre vs ns) (hz : ns.length ≤ sizeLine) (hr : Room k callerA)
    (G : ∀ base : Heap, W.K.In base → base.Ns mainGlobals mg → FnG P w W.K mg base CX k fa fd [x] (spEv W 1 fs)) (bd : ∀ (s : Shared) (u : Value), BindsTo s fd ⟨[u], []⟩ [(x, u)])
    (hf : ∃ g, fs [.sc ns] [] = .ok (.bl true) g) (hx : ∀ H e s', CX [] H s (fun _ _ _ => False) e s' → False) :
    codeAny (model P w) callerA (.call (.ref fa) ⟨[.ref l], []⟩) (fun r s' => r = .ok (.ret (.bool true)) ∧ OldK s.heap s'.heap ∧ s'.os = s.os ∧ AllBare s'.gens) s := by
  have rv := vals_ints hi
  obtain ⟨g0, hf⟩ := hf
  -- over an abstract heap that tracks the script alone, or nothing
  have main : ∀ H : Hp, Only H → ScAt W ⟨[], [], []⟩ H l ns → HOk P w H s.heap → (∀ b, H b ≠ none → b = l) → (H l ≠ none → W.K.lookup l = none) →
      codeAny (model P w) callerA (.call (.ref fa) ⟨[.ref l], []⟩) (fun r s' => r = .ok (.ret (.bool true)) ∧ OldK s.heap s'.heap ∧ s'.os = s.os ∧ AllBare s'.gens) s := by
    intro H only sc ok own apart
    have there : ∀ {b : Addr} {o : Obj}, s.heap.get? b = some o → H b = none → (hidT s.heap H).get? b = some o := fun h1 h2 => hidT_get h1 h2
    have nodict : ∀ {b : Addr} {o : Obj} {es : Array DictEntry} {ep : Nat}, s.heap.get? b = some o → o.data = .dict es ep → H b = none := by
      intro b o es ep h1 h2
      cases q : H b with
      | none => rfl
      | some u =>
        have hb := own b (by rw [q]; simp)
        subst hb
        rw [hl] at h1
        cases h1
        have h3 : Data.seq vs.toArray _ = Data.dict es ep := h2
        cases h3
    have names : ∀ {b : Addr} {m : Str → Option Value}, s.heap.Ns b m → (hidT s.heap H).Ns b m := by
      rintro b m ⟨o, es, ep, h1, h2, h3⟩
      exact ⟨o, es, ep, there h1 (nodict h1 h2), h2, h3⟩
    have kin : W.K.In (hidT s.heap H) := fun b o h => there (KX b o h) (by
      cases q : H b with
      | none => rfl
      | some u =>
        have hb := own b (by rw [q]; simp)
        subst hb
        have := apart (by rw [q]; simp)
        rw [this] at h; cases h)
    have modl : Mod W.K mg (hidT s.heap H) := ⟨kin, names n1, ⟨mb, names n2, n3⟩, by
      obtain ⟨mc, z1, z2⟩ := n4
      exact ⟨mc, names z1, z2⟩⟩
    have env0 : Env0 P w W.K mg (hidT s.heap H) callerA [] s H := ⟨rfl, modl, fun _ _ h => of_hidT h, Nat.le_of_eq (hidT_size _ _), trivial, fun _ hb => absurd hb (by simp [frs]), ok, .of_eq n5⟩
    have prom : spEv W 1 fs [.ref l] H (fun v _ => v = .bl true) fun _ _ _ => False := by
      refine ⟨[], [], [.sc ns], [], ⟨by simp, rfl, fun n a c h => by simp at h, fun a h => ?_, fun a h => (List.not_mem_nil h).elim, fun a h => (List.not_mem_nil h).elim⟩, ⟨.ref l, [], rfl, ⟨l, rfl, sc⟩, rfl⟩, rfl, ?_⟩
      · rcases h with h | h | h <;> cases h
      · rw [hf]
        exact fun F' H' _ _ v r => r
    refine codeAny_mono ((G _ kin (names n1)).go callerA [] s H ⟨[.ref l], []⟩ [.ref l] [.ref l] _ _ rfl hr env0 (bd s (.ref l)) (.cons rfl .nil) prom) fun r s' z => ?_
    rcases r with er | fl
    · exact (hx H er s' z).elim
    cases fl with
    | next => exact z.elim
    | brk => exact z.elim
    | cont => exact z.elim
    | ret u =>
      obtain ⟨v, H', z1, z2, z3, z4, z5, z6⟩ := z
      cases (show v = .bl true from z6)
      cases (show u = Value.bool true from z5)
      refine ⟨rfl, OldK.of_keep fun b o h => ?_, z1, z2⟩
      cases q : H b with
      | none => exact z3.keep b o h q (by simp [frs]) (by simp)
      | some u =>
        rcases only b with y | ⟨ob, xs, y⟩
        · rw [q] at y; cases y
        · obtain ⟨y1, _⟩ := ok b _ y
          obtain ⟨y2, _⟩ := z4 b _ (z3.frzs b ob _ y)
          rw [h] at y1
          cases y1
          exact y2
  cases hk : W.K.lookup l with
  | none =>
    refine main (fun b => if b = l then some (.frz { cls := .type "list", data := .seq vs.toArray } (.lst (ns.map V.int))) else none) (fun b => ?_) (.inl ⟨⟨_, if_pos rfl⟩, fun z => by rcases z with z | z | z <;> cases z⟩) (fun b u z => ?_) (fun b z => ?_) fun _ => hk
    · by_cases q : b = l
      · exact .inr ⟨_, _, if_pos q⟩
      · exact .inl (if_neg q)
    · by_cases q : b = l
      · have y := (if_pos q).symm.trans z
        cases y
        subst q
        exact ⟨hl, by rw [List.length_map]; exact hz, vs, _, rv, hl⟩
      · have y := (if_neg q).symm.trans z
        cases y
    · by_cases q : b = l
      · exact q
      · exact absurd (if_neg q) z
  | some o =>
    have y := KX l o hk
    rw [hl] at y
    cases y
    refine main (fun _ => none) (fun _ => .inl rfl) (.inr ⟨_, vs.toArray, _, hk, rfl, rfl, rfl, by rw [List.size_toArray, hi.length]; exact hz, by simpa using rv⟩) (fun b u z => by have y : (none : Option HO) = some u := z; cases y) (fun b z => absurd rfl z) fun z => absurd rfl z
/-- a law row's end -/
theorem law_end {l : PySem.W.OpenLaw} {n k : Nat} {q : Program} {loose : List Str} {XP : (Str → Option Value) → Heap → Prop} {YP : World → Heap → Prop} {d : DefRec} {CX : CXT} {x : Str} {fs : List D → List Cell → R D}
    (hn : l.most = some n) (hn2 : n ≤ sizeLine) (hdf : d.params.defaults = []) (hr : Room k callerA)
    (hF : ∀ (w : World) (mg : Str → Option Value) (fa : Addr) (h : Heap), YP w h → h.Ns mainGlobals mg → mg d.name = some (.ref fa) →
      ∃ (W : Wd) (fd : FuncData), W.K.In h ∧ (∀ (s : Shared) (u : Value), BindsTo s fd ⟨[u], []⟩ [(x, u)]) ∧ ∀ base : Heap, W.K.In base → base.Ns mainGlobals mg → FnG l.prog w W.K mg base CX k fa fd [x] (spEv W 1 fs))
    (hf : ∀ ns : List Int, ns.length ≤ n → ∃ g, fs [.sc ns] [] = .ok (.bl true) g)
    (hx : ∀ (H : Hp) (s : Shared) (e : Value) (s' : Shared), CX [] H s (fun _ _ _ => False) e s' → False) : PySem.W.WalkO q loose XP YP l.row.toRowW d [] (fun f vs => PySem.call f vs) := by
  refine Att.attach_call hn hdf fun w s₀ s₁ mg mb fa o pm cd doc a vs ns G Y ho hd hcd hmg hobj hints hlen hg => ?_
  obtain ⟨W, fd, KX, bd, hG⟩ := hF w mg fa _ Y G.T.g hmg
  exact law_go KX G.T.g G.T.b G.T.builtins G.T.nolimit hg hobj hints (Nat.le_trans hlen hn2) hr hG bd (hf ns hlen) fun H e s' => hx H s₁ e s'
end Ev

/-! Ev6: repr of data. -/
namespace Ev
open PySem PySem.Spec PyProof.Rows L2

theorem repr_reads {prog : Program} {w : World} {A : Around} {E : Value → Shared → Prop} {s : Shared} {v : Value} {d : PyData} {as : List Addr} {Q : Value → Shared → Prop} (r : Reads s.heap v d as) (hs : d.showable = true) (hd : d.hasDict = false) (hg : A.guards = some []) (hu : A.units + d.depth + 2 < cLine)
    (hz : d.shown.length ≤ sizeLine) (hQ : ∀ h' tk u, (∀ b o, s.heap.get? b = some o → h'.get? b = some o) → Q (.str d.shown u) { s with heap := h', toks := tk }) : wpAny (model prog w) A (call (.builtin "repr") [v]) Q E s := by
  cases r with
  | none =>
    simp only [PyData.shown] at hQ
    exact PySem.P.repr_of_none (hQ s.heap _ _ fun _ _ e => e)
  | bool b =>
    simp only [PyData.shown] at hQ
    exact PySem.P.repr_of_bool (hQ s.heap _ _ fun _ _ e => e)
  | int i t =>
    simp only [PyData.shown] at hQ
    exact PySem.P.repr_of_int (by simpa [PyData.showable] using hs) (hQ s.heap _ _ fun _ _ e => e)
  | str x t =>
    simp only [PyData.shown] at hQ hz
    exact PySem.P.repr_of_str (hQ s.heap _ _ fun _ _ e => e) hz
  | list h1 h2 h3 h4 =>
    rename_i a o vs n xs as'
    have hz' : (listText (PyData.shownAll xs)).length ≤ sizeLine := by simpa only [PyData.shown] using hz
    obtain ⟨bs, hb, hk⟩ := ReprAllK.of_readsAll (prog := prog) (w := w) h4 (by simpa [PyData.showable] using hs) (fun hx => by simp [PyData.hasDict] at hd; rw [hd] at hx; cases hx) (fun t ht => Nat.le_trans (listText_mem_le ht) hz')
    have r0 : Reads s.heap (.ref a) (.list xs) _ := .list h1 h2 h3 h4
    have hna := not_mem_of_deeper r0 (by simp only [PyData.depth]; omega) hb
    simp only [PyData.depth] at hu
    simp only [PyData.shown] at hQ
    refine call_repr_slot (T := "list") (by omega) ⟨_, h1, h2⟩ PySem.F.slot_list_repr.toG ?_
    obtain ⟨l⟩ := vs
    cases l with
    | nil =>
      have h4' : ReadsAll s.heap [] xs _ := h4
      cases h4'
      simp only [PyData.shownAll, listText_nil] at hQ
      exact call_list_repr_empty ⟨_, h1, h2⟩ h1 h3 ⟨_, _, rfl, hQ s.heap _ _ fun _ _ e => e⟩
    | cons y l =>
      exact call_list_reprK h1 h2 h3 hna (by simpa using hk.length_eq) (fun i y e => hk.item i y (by simpa using e)) (by exact hg) (fun b _ => Clear.nil b) (by show A.units + 1 + _ < _; omega) (fun _ _ e => e) (fun h' u tk k => ⟨_, _, rfl, hQ h' tk u k⟩) hz'
  | tuple h1 h2 h3 h4 =>
    rename_i a o vs n xs
    have hz' : (tupleText (PyData.shownAll xs)).length ≤ sizeLine := by simpa only [PyData.shown] using hz
    obtain ⟨bs, hb, hk⟩ := ReprAllK.of_readsAll (prog := prog) (w := w) h4 (by simpa [PyData.showable] using hs) (fun hx => by simp [PyData.hasDict] at hd; rw [hd] at hx; cases hx) (fun t ht => Nat.le_trans (tupleText_mem_le ht) hz')
    have r0 : Reads s.heap (.ref a) (.tuple xs) _ := .tuple h1 h2 h3 h4
    have hna := not_mem_of_deeper r0 (by simp only [PyData.depth]; omega) hb
    simp only [PyData.depth] at hu
    simp only [PyData.shown] at hQ
    refine call_repr_slot (T := "tuple") (by omega) ⟨_, h1, h2⟩ PySem.F.slot_tuple_repr ?_
    exact call_tuple_reprK h1 h2 h3 hna hk (by exact hg) (fun b _ => Clear.nil b) (by show A.units + 1 + _ < _; omega) (fun _ _ e => e) (fun h' u tk k => ⟨_, _, rfl, hQ h' tk u k⟩) hz'
  | dict h1 h2 h3 h4 h5 => simp [PyData.hasDict] at hd
/-! ### a bound of its length -/
mutual
def siz : D → Nat
  | .non => 4
  | .bl _ => 5
  | .int i => i.natAbs.log2 + 2
  | .str x => (reprText x).length
  | .tup ds => sizs ds + 4
  | .lst ds => sizs ds + 4
  | _ => 0
def sizs : List D → Nat
  | [] => 0
  | d :: ds => siz d + 2 + sizs ds
end
mutual
def shw : D → Bool
  | .int i => decide (i.natAbs.log2 < 1920)
  | .tup ds => shws ds
  | .lst ds => shws ds
  | _ => true
def shws : List D → Bool
  | [] => true
  | d :: ds => shw d && shws ds
end
theorem textFrom_le : ∀ (ts : List Str) (k : Nat) (acc : Str), (textFrom k acc ts).length ≤ acc.length + piled ts
  | [], k, acc => by show acc.length ≤ _; omega
  | t :: ts, k, acc => by
    have h := textFrom_le ts (k + 1) (acc ++ (if k > 0 then ", " else "" : String) ++ t)
    rw [strLen_append, strLen_append] at h
    have h2 : (((if k > 0 then ", " else "" : String) : Str)).length ≤ 2 := by split <;> decide
    rw [piled_cons]
    show (textFrom (k + 1) _ ts).length ≤ _
    omega
theorem listText_le (ts : List Str) : (listText ts).length ≤ piled ts + 2 := by
  have h := textFrom_le ts 0 "["
  have e1 : (("[" : String) : Str).length = 1 := rfl
  have e2 : (("]" : String) : Str).length = 1 := rfl
  unfold listText
  rw [strLen_append, e2]
  rw [e1] at h
  omega
theorem tupleText_le (ts : List Str) : (tupleText ts).length ≤ piled ts + 3 := by
  unfold tupleText
  rw [strLen_append, strLen_append]
  have e1 : ((("(" : String) : Str)).length = 1 := rfl
  have e3 : (((if ts.length == 1 then ",)" else ")" : String) : Str)).length ≤ 2 := by split <;> decide
  have e2 : (Str.join ", " ts).length ≤ piled ts := by
    by_cases h : ts = []
    · subst h; exact Nat.le_refl _
    · have := join_length_add ts h
      omega
  rw [e1]
  omega
mutual
theorem siz_ok : ∀ {d : D} {n : Nat}, okd d n = true → shw d = true → (toPd d).shown.length ≤ siz d ∧ (toPd d).showable = true ∧ (toPd d).hasDict = false
  | .non, _, _, _ => ⟨by simp only [toPd, PyData.shown, siz]; decide, by simp [toPd, PyData.showable], by simp [toPd, PyData.hasDict]⟩
  | .bl b, _, _, _ => ⟨by cases b <;> (simp only [toPd, PyData.shown, siz]; decide), by simp [toPd, PyData.showable], by simp [toPd, PyData.hasDict]⟩
  | .int i, _, _, s => by
    simp only [shw, decide_eq_true_eq] at s
    refine ⟨?_, by simp [toPd, PyData.showable, s], by simp [toPd, PyData.hasDict]⟩
    have := int_text_length_le (a := i) (k := i.natAbs.log2 + 1) (Nat.succ_pos _) (Nat.lt_succ_self _)
    simp only [toPd, PyData.shown, siz]
    rw [PySem.ofString_length]
    omega
  | .str x, _, _, _ => ⟨by simp only [toPd, PyData.shown, siz]; exact Nat.le_refl _, by simp [toPd, PyData.showable], by simp [toPd, PyData.hasDict]⟩
  | .tup ds, n, o, s => by
    simp only [okd, Bool.and_eq_true] at o
    simp only [shw] at s
    obtain ⟨h1, h2, h3⟩ := sizs_ok o.2 s
    refine ⟨?_, by simp [toPd, PyData.showable, h2], by simp [toPd, PyData.hasDict, h3]⟩
    simp only [toPd, PyData.shown, siz]
    have := tupleText_le (PyData.shownAll (toPds ds))
    omega
  | .lst ds, n, o, s => by
    simp only [okd, Bool.and_eq_true] at o
    simp only [shw] at s
    obtain ⟨h1, h2, h3⟩ := sizs_ok o.2 s
    refine ⟨?_, by simp [toPd, PyData.showable, h2], by simp [toPd, PyData.hasDict, h3]⟩
    simp only [toPd, PyData.shown, siz]
    have := listText_le (PyData.shownAll (toPds ds))
    omega
  | .ob _ _, _, o, _ => by simp [okd] at o
  | .g _, _, o, _ => by simp [okd] at o
  | .sc _, _, o, _ => by simp [okd] at o
  | .cl _, _, o, _ => by simp [okd] at o
theorem sizs_ok : ∀ {ds : List D} {n : Nat}, okds ds n = true → shws ds = true → piled (PyData.shownAll (toPds ds)) ≤ sizs ds ∧ PyData.showableAll (toPds ds) = true ∧ PyData.hasDictAll (toPds ds) = false
  | [], _, _, _ => ⟨by simp [toPds, PyData.shownAll, piled, sizs], by simp [toPds, PyData.showableAll], by simp [toPds, PyData.hasDictAll]⟩
  | d :: ds, n, o, s => by
    simp only [okds, Bool.and_eq_true] at o
    simp only [shws, Bool.and_eq_true] at s
    obtain ⟨p1, p2, p3⟩ := siz_ok o.1 s.1
    obtain ⟨q1, q2, q3⟩ := sizs_ok o.2 s.2
    refine ⟨?_, by simp [toPds, PyData.showableAll, p2, q2], by simp [toPds, PyData.hasDictAll, p3, q3]⟩
    simp only [toPds, PyData.shownAll, piled_cons, sizs]
    omega
end
/-! ### data with dicts of one text key -/
mutual
def toPr : D → PyData
  | .tup ds => .tuple (toPrs ds)
  | .lst ds => .list (toPrs ds)
  | .da ds => .dict (toPrk ds)
  | d => toPd d
def toPrs : List D → List PyData
  | [] => []
  | d :: ds => toPr d :: toPrs ds
def toPrk : List D → List (PyData × PyData)
  | [] => []
  | d :: ds => (.str "a", toPr d) :: toPrk ds
end
mutual
def okr : D → Nat → Bool
  | .tup ds, n => decide (0 < n) && okrs ds (n - 1)
  | .lst ds, n => decide (0 < n) && okrs ds (n - 1)
  | .da ds, n => decide (0 < n) && okrs ds (n - 1)
  | .non, _ => true
  | .bl _, _ => true
  | .int i, _ => decide (i.natAbs.log2 < 1920)
  | .str x, _ => true
  | _, _ => false
def okrs : List D → Nat → Bool
  | [], _ => true
  | d :: ds, n => okr d n && okrs ds n
end
def Rk (prog : Program) (w : World) (h : Heap) (u : Value) (d : PyData) (n : Nat) : Prop := ∃ as, Reads h u d as ∧ d.depth ≤ n ∧ (d.shown.length ≤ sizeLine → ∃ bs, ReadAtMost h d.depth bs ∧ ReprK prog w bs h d.depth u d.shown)
def RkAll (prog : Program) (w : World) (h : Heap) (us : List Value) (ds : List PyData) (n : Nat) : Prop := ∃ as, ReadsAll h us ds as ∧ PyData.depthAll ds ≤ n ∧ ((∀ t ∈ PyData.shownAll ds, t.length ≤ sizeLine) → ∃ bs, ReadAtMost h (PyData.depthAll ds) bs ∧ ReprAllK prog w bs h (PyData.depthAll ds) us (PyData.shownAll ds))
section
variable {prog : Program} {w : World} {h : Heap}
theorem Rk.flat {u : Value} {d : PyData} {n : Nat} (r : Reads h u d []) (hd : d.depth = 0) (hs : d.shown.length ≤ sizeLine → ReprIs prog w u d.shown) : Rk prog w h u d n := ⟨_, r, by omega, fun z => ⟨[], fun _ q => (nomatch q), .of_is (hs z) _ _ _⟩⟩
theorem RkAll.nil {n : Nat} : RkAll prog w h [] [] n := ⟨_, .nil, by simp [PyData.depthAll], fun _ => ⟨[], fun _ q => (nomatch q), by simp only [PyData.shownAll]; exact .nil⟩⟩
theorem RkAll.cons {u : Value} {us : List Value} {d : PyData} {ds : List PyData} {n : Nat} (a : Rk prog w h u d n) (b : RkAll prog w h us ds n) : RkAll prog w h (u :: us) (d :: ds) n := by
  obtain ⟨as, r1, l1, k1⟩ := a
  obtain ⟨bs, r2, l2, k2⟩ := b
  refine ⟨_, .cons r1 r2, by simp only [PyData.depthAll]; omega, fun z => ?_⟩
  obtain ⟨c1, q1, w1⟩ := k1 (z _ (by simp only [PyData.shownAll]; exact List.mem_cons_self ..))
  obtain ⟨c2, q2, w2⟩ := k2 fun t ht => z t (by simp only [PyData.shownAll]; exact List.mem_cons_of_mem _ ht)
  refine ⟨c1 ++ c2, ?_, ?_⟩
  · simp only [PyData.depthAll]
    exact (q1.mono (Nat.le_max_left _ _)).append (q2.mono (Nat.le_max_right _ _))
  · simp only [PyData.depthAll, PyData.shownAll]
    exact .cons ((w1.more fun b hb => List.mem_append_left _ hb).level_le (Nat.le_max_left _ _)) (w2.more_le (fun b hb => List.mem_append_right _ hb) (Nat.le_max_right _ _))
theorem Rk.list {a : Addr} {o : Obj} {vs : Array Value} {m n : Nat} {ds : List PyData} (h1 : h.get? a = some o) (h2 : o.cls = .type "list") (h3 : o.data = .seq vs m) (r : RkAll prog w h vs.toList ds n) : Rk prog w h (.ref a) (.list ds) (n + 1) := by
  obtain ⟨as, r1, l1, k1⟩ := r
  have r : Reads h (.ref a) (.list ds) _ := .list h1 h2 h3 r1
  refine ⟨_, r, by simp only [PyData.depth]; omega, fun z => ?_⟩
  have z' : (listText (PyData.shownAll ds)).length ≤ sizeLine := by simpa only [PyData.shown] using z
  obtain ⟨bs, hb, hk⟩ := k1 fun t ht => Nat.le_trans (listText_mem_le ht) z'
  refine ⟨a :: bs, ReadAtMost.cons r (by simp only [PyData.depth]; omega) hb, ?_⟩
  simp only [PyData.depth, PyData.shown]
  obtain ⟨l⟩ := vs
  cases l with
  | nil =>
    have r1' : ReadsAll h [] ds _ := r1
    cases r1'
    simp only [PyData.shownAll, listText_nil]
    exact ReprK.listEmpty h1 h2 h3
  | cons x l => exact ReprK.list h1 h2 h3 (not_mem_of_deeper r (by simp only [PyData.depth]; omega) hb) (by simpa using hk.length_eq) (fun i y e => hk.item i y (by simpa using e))
theorem Rk.tuple {a : Addr} {o : Obj} {vs : Array Value} {m n : Nat} {ds : List PyData} (h1 : h.get? a = some o) (h2 : o.cls = .type "tuple") (h3 : o.data = .seq vs m) (r : RkAll prog w h vs.toList ds n) : Rk prog w h (.ref a) (.tuple ds) (n + 1) := by
  obtain ⟨as, r1, l1, k1⟩ := r
  have r : Reads h (.ref a) (.tuple ds) _ := .tuple h1 h2 h3 r1
  refine ⟨_, r, by simp only [PyData.depth]; omega, fun z => ?_⟩
  have z' : (tupleText (PyData.shownAll ds)).length ≤ sizeLine := by simpa only [PyData.shown] using z
  obtain ⟨bs, hb, hk⟩ := k1 fun t ht => Nat.le_trans (tupleText_mem_le ht) z'
  refine ⟨a :: bs, ReadAtMost.cons r (by simp only [PyData.depth]; omega) hb, ?_⟩
  simp only [PyData.depth, PyData.shown]
  exact ReprK.tuple h1 h2 h3 (not_mem_of_deeper r (by simp only [PyData.depth]; omega) hb) hk
theorem toPrk_keys : ∀ ds : List D, (toPrk ds).map (·.2) = toPrs ds
  | [] => rfl
  | d :: ds => by
    show toPr d :: (toPrk ds).map (·.2) = toPr d :: toPrs ds
    rw [toPrk_keys ds]
theorem Rk.dict {a : Addr} {o : Obj} {es : Array DictEntry} {m n : Nat} {ds : List D} (h1 : h.get? a = some o) (h2 : o.cls = .type "dict") (h3 : o.data = .dict es m) (hsys : (a == sysModules) = false) (hk : RkAll prog w h (es.toList.map (·.key)) ((toPrk ds).map (·.1)) 0)
    (hv : RkAll prog w h (es.toList.map (·.val)) ((toPrk ds).map (·.2)) n) : Rk prog w h (.ref a) (.dict (toPrk ds)) (n + 1) := by
  obtain ⟨as, r1, l1, k1⟩ := hk
  obtain ⟨bs, r2, l2, k2⟩ := hv
  have r : Reads h (.ref a) (.dict (toPrk ds)) _ := .dict h1 h2 h3 r1 r2
  have hd : PyData.depthKv (toPrk ds) ≤ n := by
    have key : ∀ kvs : List (PyData × PyData), PyData.depthAll (kvs.map (·.1)) ≤ n → PyData.depthAll (kvs.map (·.2)) ≤ n → PyData.depthKv kvs ≤ n := by
      intro kvs
      induction kvs with
      | nil => intro _ _; simp [PyData.depthKv]
      | cons p kvs ih =>
        obtain ⟨k, v⟩ := p
        intro q1 q2
        simp only [List.map_cons, PyData.depthAll] at q1 q2
        have := ih (by omega) (by omega)
        simp only [PyData.depthKv]
        omega
    exact key _ (by omega) l2
  refine ⟨_, r, by simp only [PyData.depth]; omega, fun z => ?_⟩
  have z' : (dictText (PyData.shownKv (toPrk ds))).length ≤ sizeLine := by simpa only [PyData.shown] using z
  obtain ⟨b1, q1, w1⟩ := k1 fun t ht => let ⟨p, hp, hl⟩ := PyData.shownKv_key_le (toPrk ds) t ht; Nat.le_trans hl (Nat.le_trans (dictText_mem_le hp) z')
  obtain ⟨b2, q2, w2⟩ := k2 fun t ht => let ⟨p, hp, hl⟩ := PyData.shownKv_val_le (toPrk ds) t ht; Nat.le_trans hl (Nat.le_trans (dictText_mem_le hp) z')
  have hb : ReadAtMost h (PyData.depthKv (toPrk ds)) (b1 ++ b2) := (q1.mono (PyData.depthAll_keys_le _)).append (q2.mono (PyData.depthAll_vals_le _))
  refine ⟨a :: (b1 ++ b2), ReadAtMost.cons r (by simp only [PyData.depth]; omega) hb, ?_⟩
  simp only [PyData.depth, PyData.shown, PyData.shownKv_eq]
  exact ReprK.dict h1 h2 h3 hsys (not_mem_of_deeper r (by simp only [PyData.depth]; omega) hb) (ReprEntriesK.of_two es.toList _ _
    (w1.more_le (fun b hb => List.mem_append_left _ hb) (PyData.depthAll_keys_le _)) (w2.more_le (fun b hb => List.mem_append_right _ hb) (PyData.depthAll_vals_le _)))
end
section
variable {X : Cx} {pins : List (Addr × Obj)} {σ : L2.St} {s : Shared} {W : Wd} {F : Fb} {H : Hp}
theorem rk_keys {h : Heap} {P : Program} {w : World} : ∀ {ds : List D} {es : List DictEntry} {kvs : List (Key × Value)} {vs : List V}, Pairs (mixKind P w) es kvs → KV (vs.map dka) kvs → vs.length = ds.length →
    RkAll P w h (es.map (·.key)) ((toPrk ds).map (·.1)) 0 ∧ Vals vs (es.map (·.val))
  | ds, _, _, vs, .nil, kv, hl => by
    cases vs with
    | nil =>
      cases ds with
      | nil => exact ⟨.nil, .nil⟩
      | cons _ _ => cases hl
    | cons _ _ => cases kv
  | ds, _, _, vs, .cons hk hv hp, kv, hl => by
    cases vs with
    | nil => cases kv
    | cons v vs =>
      cases ds with
      | nil => cases hl
      | cons d ds =>
        cases kv with
        | cons a b =>
          obtain ⟨a1, a2⟩ := a
          obtain ⟨i1, i2⟩ := rk_keys (h := h) (ds := ds) hp b (Nat.succ.inj hl)
          rename_i e kv0 es0 kvs0
          have hk : keyIs (Sum.inr "a") e.key = true := by
            have a1 : (Sum.inr "a" : Key) = kv0.1 := a1
            rw [a1]
            exact hk
          obtain ⟨t, ht⟩ : ∃ t, e.key = Value.str "a" t := by
            rcases keyIs_shape hk with ⟨i, t, e1, _⟩ | ⟨x, t, e1, e2⟩
            · cases e1
            · cases e1
              exact ⟨t, e2⟩
          refine ⟨RkAll.cons ?_ i1, .cons (by show L2.RelV v e.val; rw [hv]; exact a2) i2⟩
          show Rk P w h e.key _ 0
          rw [ht]
          exact Rk.flat (.str "a" t) (by simp [PyData.depth]) fun z => by
            simp only [PyData.shown] at z ⊢
            exact ReprIs.str "a" t z
mutual
theorem rk_of (I : Inv X pins σ H s) (hK : X.K = W.K) : ∀ {d : D} {v : V} {u : Value} {n : Nat}, Look W F H d v → okr d n = true → L2.RelV v u → Rk X.prog X.w s.heap u (toPr d) n
  | .non, _, u, n, h, _, r => by
    cases (show _ = V.non from h)
    cases (show u = Value.none from r)
    exact Rk.flat .none (by simp [toPr, toPd, PyData.depth]) fun _ => by simp only [toPr, toPd, PyData.shown]; exact ReprIs.none
  | .bl b, _, u, n, h, _, r => by
    cases (show _ = V.bl b from h)
    cases (show u = Value.bool b from r)
    exact Rk.flat (.bool b) (by simp [toPr, toPd, PyData.depth]) fun _ => by simp only [toPr, toPd, PyData.shown]; exact ReprIs.bool b
  | .int i, _, u, n, h, o, r => by
    cases (show _ = V.int i from h)
    obtain ⟨t, rfl⟩ := (show ∃ t, u = Value.int i t from r)
    exact Rk.flat (.int i t) (by simp [toPr, toPd, PyData.depth]) fun _ => by simp only [toPr, toPd, PyData.shown]; exact ReprIs.int t (of_decide_eq_true o)
  | .str x, _, u, n, h, _, r => by
    cases (show _ = V.str x from h)
    obtain ⟨t, rfl⟩ := (show ∃ t, u = Value.str x t from r)
    exact Rk.flat (.str x t) (by simp [toPr, toPd, PyData.depth]) fun z => by
      simp only [toPr, toPd, PyData.shown] at z ⊢
      exact ReprIs.str x t z
  | .tup ds, _, u, n, h, o, r => by
    obtain ⟨a, vs, rfl, t, rl⟩ := h
    cases (show u = Value.ref a from r)
    simp only [okr, Bool.and_eq_true, decide_eq_true_eq] at o
    obtain ⟨its, rv, ⟨ob, ho, hc, m, hd⟩, _⟩ := I.tuple (by rw [hK]; exact t.seq)
    have := Rk.tuple ho hc hd (rks_of I hK rl o.2 (by simpa using rv))
    rw [show n - 1 + 1 = n by omega] at this
    exact this
  | .lst ds, _, u, n, h, o, r => by
    obtain ⟨a, vs, rfl, t, _, rl⟩ := h
    cases (show u = Value.ref a from r)
    simp only [okr, Bool.and_eq_true, decide_eq_true_eq] at o
    obtain ⟨its, rv, ⟨ob, m, ho, hc, _, hd⟩, _⟩ := I.list (.inl (.inl t))
    have := Rk.list ho hc hd (rks_of I hK rl o.2 (by simpa using rv))
    rw [show n - 1 + 1 = n by omega] at this
    exact this
  | .da ds, _, u, n, h, o, r => by
    obtain ⟨a, vs, rfl, t, _, rl⟩ := h
    cases (show u = Value.ref a from r)
    simp only [okr, Bool.and_eq_true, decide_eq_true_eq] at o
    obtain ⟨_, hsys, kvs, kv, ob, es, ep, ho, hx, hd, _, hp, _⟩ := dk_rd I.hok t
    obtain ⟨k1, k2⟩ := rk_keys (h := s.heap) (ds := ds) hp kv rl.length.symm
    have := Rk.dict ho hx.1 hd hsys k1 (by rw [toPrk_keys]; exact rks_of I hK rl o.2 k2)
    rw [show n - 1 + 1 = n by omega] at this
    exact this
  | .ob _ _, _, _, _, _, o, _ => by simp [okr] at o
  | .g _, _, _, _, _, o, _ => by simp [okr] at o
  | .sc _, _, _, _, _, o, _ => by simp [okr] at o
  | .cl _, _, _, _, _, o, _ => by simp [okr] at o
  | .dct _, _, _, _, _, o, _ => by simp [okr] at o
  | .exc _ _, _, _, _, _, o, _ => by simp [okr] at o
theorem rks_of (I : Inv X pins σ H s) (hK : X.K = W.K) : ∀ {ds : List D} {vs : List V} {us : List Value} {n : Nat}, RepL W F H ds vs → okrs ds n = true → Vals vs us → RkAll X.prog X.w s.heap us (toPrs ds) n
  | [], _, _, n, h, _, r => by
    cases (show _ = [] from h)
    cases r
    exact .nil
  | d :: ds, _, _, n, h, o, r => by
    obtain ⟨v, q, rfl, h1, h2⟩ := h
    simp only [okrs, Bool.and_eq_true] at o
    cases r with
    | cons r1 r2 => exact .cons (rk_of I hK h1.look o.1 r1) (rks_of I hK h2 o.2 r2)
end
end
theorem call_rk {X : Cx} {pins : List (Addr × Obj)} {σ : L2.St} {s : Shared} {W : Wd} {F : Fb} {H : Hp} {d : D} {v : V} {u : Value} {E : Value → Shared → Prop} {Q : Value → Shared → Prop} (I : Inv X pins σ H s) (hK : X.K = W.K) (hL : Look W F H d v) (ho : okr d 60 = true) (r : L2.RelV v u)
    (hz : (toPr d).shown.length ≤ sizeLine) (hg : X.A.guards = some []) (hu : X.A.units + 64 < cLine) (hQ : ∀ h' tk t, (∀ b o, s.heap.get? b = some o → h'.get? b = some o) → Q (.str (toPr d).shown t) { s with heap := h', toks := tk }) :
    wpAny (model X.prog X.w) X.A (call (.builtin "repr") [u]) Q E s := by
  cases d with
  | non =>
    cases (show v = V.non from hL)
    cases (show u = Value.none from r)
    simp only [toPr, toPd, PyData.shown] at hQ
    exact PySem.P.repr_of_none (hQ s.heap _ _ fun _ _ e => e)
  | bl b =>
    cases (show v = V.bl b from hL)
    cases (show u = Value.bool b from r)
    simp only [toPr, toPd, PyData.shown] at hQ
    exact PySem.P.repr_of_bool (hQ s.heap _ _ fun _ _ e => e)
  | int i =>
    cases (show v = V.int i from hL)
    obtain ⟨t, rfl⟩ := (show ∃ t, u = Value.int i t from r)
    simp only [toPr, toPd, PyData.shown] at hQ
    exact PySem.P.repr_of_int (of_decide_eq_true ho) (hQ s.heap _ _ fun _ _ e => e)
  | str x =>
    cases (show v = V.str x from hL)
    obtain ⟨t, rfl⟩ := (show ∃ t, u = Value.str x t from r)
    simp only [toPr, toPd, PyData.shown] at hQ hz
    exact PySem.P.repr_of_str (hQ s.heap _ _ fun _ _ e => e) hz
  | tup ds =>
    obtain ⟨a, vs, rfl, t, rl⟩ := hL
    cases (show u = Value.ref a from r)
    simp only [okr, Bool.and_eq_true, decide_eq_true_eq] at ho
    obtain ⟨its, rv, ⟨ob, h1, h2, m, h3⟩, _⟩ := I.tuple (by rw [hK]; exact t.seq)
    obtain ⟨as, r1, l1, k1⟩ := rks_of (n := 59) I hK rl ho.2 rv
    have rr : Reads s.heap (.ref a) (.tuple (toPrs ds)) _ := .tuple h1 h2 h3 (by simpa using r1)
    have hz' : (tupleText (PyData.shownAll (toPrs ds))).length ≤ sizeLine := by simpa only [toPr, PyData.shown] using hz
    obtain ⟨bs, hb, hk⟩ := k1 fun t ht => Nat.le_trans (tupleText_mem_le ht) hz'
    simp only [toPr, PyData.shown] at hQ
    refine call_repr_slot (T := "tuple") (by omega) ⟨_, h1, h2⟩ PySem.F.slot_tuple_repr ?_
    exact call_tuple_reprK h1 h2 h3 (not_mem_of_deeper rr (by simp only [PyData.depth]; omega) hb) (by simpa using hk) (by exact hg) (fun b _ => Clear.nil b) (by show X.A.units + 1 + _ < _; omega) (fun _ _ e => e) (fun h' u tk k => ⟨_, _, rfl, hQ h' tk u k⟩) hz'
  | lst ds =>
    obtain ⟨a, vs, rfl, t, _, rl⟩ := hL
    cases (show u = Value.ref a from r)
    simp only [okr, Bool.and_eq_true, decide_eq_true_eq] at ho
    obtain ⟨its, rv, ⟨ob, m, h1, h2, _, h3⟩, _⟩ := I.list (.inl (.inl t))
    obtain ⟨as, r1, l1, k1⟩ := rks_of (n := 59) I hK rl ho.2 rv
    have rr : Reads s.heap (.ref a) (.list (toPrs ds)) _ := .list h1 h2 h3 (by simpa using r1)
    have hz' : (listText (PyData.shownAll (toPrs ds))).length ≤ sizeLine := by simpa only [toPr, PyData.shown] using hz
    obtain ⟨bs, hb, hk⟩ := k1 fun t ht => Nat.le_trans (listText_mem_le ht) hz'
    simp only [toPr, PyData.shown] at hQ
    refine call_repr_slot (T := "list") (by omega) ⟨_, h1, h2⟩ PySem.F.slot_list_repr.toG ?_
    cases its with
    | nil =>
      have e0 : toPrs ds = [] := by
        generalize toPrs ds = ys at r1
        cases r1
        rfl
      rw [e0] at hQ
      simp only [PyData.shownAll, listText_nil] at hQ
      exact call_list_repr_empty ⟨_, h1, h2⟩ h1 h3 ⟨_, _, rfl, hQ s.heap _ _ fun _ _ e => e⟩
    | cons y l =>
      exact call_list_reprK h1 h2 h3 (not_mem_of_deeper rr (by simp only [PyData.depth]; omega) hb) (by simpa using hk.length_eq) (fun i y e => hk.item i y (by simpa using e)) (by exact hg) (fun b _ => Clear.nil b) (by show X.A.units + 1 + _ < _; omega) (fun _ _ e => e) (fun h' u tk k => ⟨_, _, rfl, hQ h' tk u k⟩) hz'
  | da ds =>
    obtain ⟨a, vs, rfl, t, _, rl⟩ := hL
    cases (show u = Value.ref a from r)
    simp only [okr, Bool.and_eq_true, decide_eq_true_eq] at ho
    obtain ⟨_, hsys, kvs, kv, ob, es, ep, h1, hx, h3, _, hp, _⟩ := dk_rd I.hok t
    obtain ⟨q1, q2⟩ := rk_keys (h := s.heap) (ds := ds) hp kv rl.length.symm
    obtain ⟨as, r1, l1, k1⟩ := q1
    obtain ⟨bs, r2, l2, k2⟩ := rks_of (n := 59) I hK rl ho.2 q2
    rw [← toPrk_keys] at r2 l2 k2
    have rr : Reads s.heap (.ref a) (.dict (toPrk ds)) _ := .dict h1 hx.1 h3 r1 r2
    have hz' : (dictText (PyData.shownKv (toPrk ds))).length ≤ sizeLine := by simpa only [toPr, PyData.shown] using hz
    obtain ⟨b1, p1, w1⟩ := k1 fun t ht => let ⟨p, hp, hl⟩ := PyData.shownKv_key_le (toPrk ds) t ht; Nat.le_trans hl (Nat.le_trans (dictText_mem_le hp) hz')
    obtain ⟨b2, p2, w2⟩ := k2 fun t ht => let ⟨p, hp, hl⟩ := PyData.shownKv_val_le (toPrk ds) t ht; Nat.le_trans hl (Nat.le_trans (dictText_mem_le hp) hz')
    have hb : ReadAtMost s.heap (PyData.depthKv (toPrk ds)) (b1 ++ b2) := (p1.mono (PyData.depthAll_keys_le _)).append (p2.mono (PyData.depthAll_vals_le _))
    have hd : PyData.depthKv (toPrk ds) ≤ 59 := by
      have key : ∀ kvs : List (PyData × PyData), PyData.depthAll (kvs.map (·.1)) ≤ 59 → PyData.depthAll (kvs.map (·.2)) ≤ 59 → PyData.depthKv kvs ≤ 59 := by
        intro kvs
        induction kvs with
        | nil => intro _ _; simp [PyData.depthKv]
        | cons p kvs ih =>
          obtain ⟨k, v⟩ := p
          intro q1 q2
          simp only [List.map_cons, PyData.depthAll] at q1 q2
          have := ih (by omega) (by omega)
          simp only [PyData.depthKv]
          omega
      exact key _ (by omega) l2
    simp only [toPr, PyData.shown, PyData.shownKv_eq] at hQ
    refine call_repr_slot (T := "dict") (by omega) ⟨_, h1, hx.1⟩ PySem.F.slot_dict_repr ?_
    exact call_dict_reprK h1 hx.1 h3 hsys (not_mem_of_deeper rr (by simp only [PyData.depth]; omega) hb) (ReprEntriesK.of_two es.toList _ _ (w1.more_le (fun b hb => List.mem_append_left _ hb) (PyData.depthAll_keys_le _)) (w2.more_le (fun b hb => List.mem_append_right _ hb) (PyData.depthAll_vals_le _)))
      (by exact hg) (fun b _ => Clear.nil b) (by show X.A.units + 1 + _ < _; omega) (fun _ _ e => e) (fun h' u tk k => ⟨_, _, rfl, hQ h' tk u k⟩) (by rw [← PyData.shownKv_eq]; exact hz')
  | ob _ _ => simp [okr] at ho
  | g _ => simp [okr] at ho
  | sc _ => simp [okr] at ho
  | cl _ => simp [okr] at ho
  | dct _ => simp [okr] at ho
  | exc _ _ => simp [okr] at ho
/-! ### a bound of its length -/
mutual
def szr : D → Nat
  | .tup ds => szrs ds + 4
  | .lst ds => szrs ds + 4
  | .da ds => szrs ds + 4
  | .non => 4
  | .bl _ => 5
  | .int i => i.natAbs.log2 + 2
  | .str x => (reprText x).length
  | _ => 0
def szrs : List D → Nat
  | [] => 0
  | d :: ds => szr d + 7 + szrs ds
end
theorem dictText_le (ts : List Str) : (dictText ts).length ≤ piled ts + 2 := by
  unfold dictText
  rw [strLen_append, strLen_append]
  have e1 : ((("{" : String) : Str)).length = 1 := rfl
  have e3 : ((("}" : String) : Str)).length = 1 := rfl
  have e2 : (Str.join ", " ts).length ≤ piled ts := by
    by_cases h : ts = []
    · subst h; exact Nat.le_refl _
    · have := join_length_add ts h
      omega
  have e1' : (("{" : Str)).length = 1 := rfl
  have e3' : (("}" : Str)).length = 1 := rfl
  omega
mutual
theorem szr_ok : ∀ {d : D} {n : Nat}, okr d n = true → (toPr d).shown.length ≤ szr d
  | .non, _, _ => by simp only [toPr, toPd, PyData.shown, szr]; decide
  | .bl b, _, _ => by cases b <;> (simp only [toPr, toPd, PyData.shown, szr]; decide)
  | .int i, _, _ => by
    have := int_text_length_le (a := i) (k := i.natAbs.log2 + 1) (Nat.succ_pos _) (Nat.lt_succ_self _)
    simp only [toPr, toPd, PyData.shown, szr]
    rw [PySem.ofString_length]
    omega
  | .str x, _, _ => by simp only [toPr, toPd, PyData.shown, szr]; exact Nat.le_refl _
  | .tup ds, n, o => by
    simp only [okr, Bool.and_eq_true] at o
    have h := (szrs_ok o.2).1
    simp only [toPr, PyData.shown, szr]
    have := tupleText_le (PyData.shownAll (toPrs ds))
    omega
  | .lst ds, n, o => by
    simp only [okr, Bool.and_eq_true] at o
    have h := (szrs_ok o.2).1
    simp only [toPr, PyData.shown, szr]
    have := listText_le (PyData.shownAll (toPrs ds))
    omega
  | .da ds, n, o => by
    simp only [okr, Bool.and_eq_true] at o
    have h := (szrs_ok o.2).2
    simp only [toPr, PyData.shown, szr]
    have := dictText_le (PyData.shownKv (toPrk ds))
    omega
  | .ob _ _, _, o => by simp [okr] at o
  | .g _, _, o => by simp [okr] at o
  | .sc _, _, o => by simp [okr] at o
  | .cl _, _, o => by simp [okr] at o
  | .dct _, _, o => by simp [okr] at o
  | .exc _ _, _, o => by simp [okr] at o
theorem szrs_ok : ∀ {ds : List D} {n : Nat}, okrs ds n = true → piled (PyData.shownAll (toPrs ds)) ≤ szrs ds ∧ piled (PyData.shownKv (toPrk ds)) ≤ szrs ds
  | [], _, _ => by simp [toPrs, toPrk, PyData.shownAll, PyData.shownKv, piled, szrs]
  | d :: ds, n, o => by
    simp only [okrs, Bool.and_eq_true] at o
    have h1 := szr_ok o.1
    obtain ⟨h2, h3⟩ := szrs_ok o.2
    refine ⟨?_, ?_⟩
    · simp only [toPrs, PyData.shownAll, piled_cons, szrs]
      omega
    · simp only [toPrk, PyData.shownKv, piled_cons, szrs]
      rw [strLen_append, strLen_append]
      have e1 : (PyData.shown (.str "a")).length = 3 := by simp only [PyData.shown]; decide +kernel
      have e2 : ((": " : Str)).length = 2 := rfl
      omega
end
/-- the text of its repr -/
def rpT (d : D) : Str := if okd d 60 = true ∧ shw d = true ∧ siz d ≤ 16777216 then (toPd d).shown else (toPr d).shown
def rprF : List D → List Cell → Option D := fun ds _ => match ds with
  | [d] => if okd d 60 = true ∧ shw d = true ∧ siz d ≤ 16777216 then some (.str (toPd d).shown) else if okr d 60 = true ∧ szr d ≤ 16777216 then some (.str (toPr d).shown) else none
  | _ => none
theorem rprF_A {d : D} {g : List Cell} (h1 : okr d 60 = true) (h2 : szr d ≤ 16777216) : rprF [d] g = some (.str (rpT d)) := by
  unfold rprF rpT
  simp only
  split
  · rfl
  · rw [if_pos ⟨h1, h2⟩]
theorem b_repr {W : Wd} {X : Cx} (hK : X.K = W.K) (hG : X.A.guards = some []) (hu : X.A.units + 64 < cLine) : BltOk W X "repr" rprF := by
  refine ⟨fun xs H Q => (∃ x d, xs = [x] ∧ Dp W.K H x d ∧ d.depth ≤ 60 ∧ d.showable = true ∧ d.hasDict = false ∧ d.shown.length ≤ sizeLine ∧ Q (.str d.shown) H) ∨ ∃ x d F, xs = [x] ∧ Look W F H d x ∧ okr d 60 = true ∧ (toPr d).shown.length ≤ sizeLine ∧ Q (.str (toPr d).shown) H, ?_, ?_⟩
  · intro pins s σ H xs us Q I r h
    rcases h with ⟨x, d, rfl, hd, h1, h2, h3, h4, q⟩ | ⟨x, d, F, rfl, hL, h1, h2, q⟩
    · obtain ⟨u, rfl, ru⟩ := vals1 r
      rw [← hK] at hd
      obtain ⟨as, rd⟩ := Dp.reads I d x u hd ru
      exact repr_reads rd h2 h3 hG (by omega) h4 fun h' tk u k => ⟨.str _, H, I.kept k, ⟨_, rfl⟩, q⟩
    · obtain ⟨u, rfl, ru⟩ := vals1 r
      exact call_rk I hK hL h1 ru h2 hG hu fun h' tk u k => ⟨.str _, H, I.kept k, ⟨_, rfl⟩, q⟩
  · intro F H g ds d vs Q c rr e k
    cases ds with
    | nil => cases e
    | cons y ys =>
      cases ys with
      | cons _ _ => cases y <;> cases e
      | nil =>
        obtain ⟨v, rfl, rv⟩ := look1 rr
        simp only [rprF] at e
        split at e
        · rename_i hc
          cases e
          obtain ⟨p1, p2, p3⟩ := dp_of rv hc.1
          obtain ⟨q1, q2, q3⟩ := siz_ok hc.1 hc.2.1
          exact .inl ⟨v, _, rfl, p1, p3, q2, q3, by rw [sizeLine_eq]; exact Nat.le_trans q1 hc.2.2, k H _ (fun _ _ h => h) c (rep_str _)⟩
        · split at e
          · rename_i hc
            cases e
            exact .inr ⟨v, y, F, rfl, rv, hc.1, by rw [sizeLine_eq]; exact Nat.le_trans (szr_ok hc.1) hc.2, k H _ (fun _ _ h => h) c (rep_str _)⟩
          · cases e
end Ev

/-! Ev7: short words for the generated derivations. -/
namespace Ev
open PySem PySem.Spec PyProof.Rows L2
theorem bt_len : bootBuiltins "len" = some (.builtin "len") := by decide +kernel
theorem bt_abs : bootBuiltins "abs" = some (.builtin "abs") := by decide +kernel
theorem bt_max : bootBuiltins "max" = some (.builtin "max") := by decide +kernel
theorem bt_min : bootBuiltins "min" = some (.builtin "min") := by decide +kernel
theorem bt_all : bootBuiltins "all" = some (.builtin "all") := by decide +kernel
theorem bt_any : bootBuiltins "any" = some (.builtin "any") := by decide +kernel
theorem bt_sum : bootBuiltins "sum" = some (.builtin "sum") := by decide +kernel
theorem bt_repr : bootBuiltins "repr" = some (.builtin "repr") := by decide +kernel
theorem bt_tuple : bootBuiltins "tuple" = some (.type "tuple") := by decide +kernel
theorem bt_list : bootBuiltins "list" = some (.type "list") := by decide +kernel
section
variable {W : Wd} {E : XK} {X : Cx} {e : Expr} {m : M D}
theorem see (h : PE X e (tM W E m)) : PE X e (tS W E m) := PE.see h
/-- a new list is handed back as a cell -/
def retCell (m : M (List D)) : MS := fun e g => (m e g).toS fun ds g1 => .rt (.g g1.length) (g1 ++ [.lst ds])
theorem es_retCell {a : Expr} {pos : Pos} {mr : M (List D)} (h : PE X a (tF W E mr)) : PS X (.Return (some a) pos) (tMS W E (retCell mr)) := weakS (ps_ret h) fun D0 σ H ⟨F, e, g, S, p⟩ => by
  refine ⟨F, e, g, S, p.toS.mono fun ds g1 F1 H1 x c k q vs nq r => ?_⟩
  have nh : ¬ F1.has q := c.none nq
  have hl : F1.th[F1.th.length]? = none := List.getElem?_eq_none (Nat.le_refl _)
  have up : Up F1 ({ F1 with th := F1.th ++ [q] } : Fb).base H1 (upd H1 q (.lst vs)) := by
    refine ⟨fun a u e n => ⟨keep_new nq a u e, fun z => ?_⟩, [q], rfl⟩
    rcases z with z | z | z
    · exact n (.inl z)
    · cases z
    · rcases List.mem_append.mp z with z | z
      · exact n (.inr (.inr z))
      · rw [List.mem_singleton.mp z, nq] at e; cases e
  refine k { F1 with th := F1.th ++ [q] } (upd H1 q (.lst vs)) (.ref q) ⟨fun a u e _ _ => keep_new nq a u e, fun a u e => ⟨u, keep_new nq a u e⟩, ⟨[q], rfl, fun a ha => by rw [List.mem_singleton.mp ha]; exact nq⟩, rfl, fun a h => .inl h⟩ ?_ ⟨q, ?_, rfl⟩
  · refine ⟨?_, ?_, fun n a y h1 h2 => ?_, fun a z => ?_, fun a ha => ⟨fun z => ?_, fun z => by cases z⟩, fun a z => by cases z⟩
    · show (F1.th ++ [q]).Nodup
      rw [List.nodup_append]
      exact ⟨c.nd, by simp, fun a ha b hb z => nh (.inr (.inr (by rw [← List.mem_singleton.mp hb, ← z]; exact ha)))⟩
    · show (F1.th ++ [q]).length = (g1 ++ [Cell.lst ds]).length
      simp [c.len]
    · have h1' : (F1.th ++ [q])[n]? = some a := h1
      by_cases hn : n < F1.th.length
      · rw [List.getElem?_append_left hn] at h1'
        rw [List.getElem?_append_left (by rw [← c.len]; exact hn)] at h2
        exact (c.cel n a y h1' h2).up up (upd_ne fun z => nh (.inr (.inr (by rw [← z]; exact List.mem_of_getElem? h1'))))
      · rw [List.getElem?_append_right (by omega)] at h1'
        rw [List.getElem?_append_right (by rw [← c.len]; omega)] at h2
        have e1 : a = q := by
          have := List.mem_of_getElem? h1'
          exact List.mem_singleton.mp this
        have e2 : y = .lst ds := by
          have := List.mem_of_getElem? h2
          exact List.mem_singleton.mp this
        subst e1; subst e2
        exact ⟨vs, upd_same, r.up up⟩
    · by_cases ha : a = q
      · exact ⟨_, by rw [ha]; exact upd_same⟩
      · have hF : F1.has a := by
          rcases z with z | z | z
          · exact .inl z
          · cases z
          · rcases List.mem_append.mp z with z | z
            · exact .inr (.inr z)
            · exact absurd (List.mem_singleton.mp z) ha
        obtain ⟨u, e⟩ := c.tr a hF
        exact ⟨u, by rw [upd_ne ha]; exact e⟩
    · rcases List.mem_append.mp ha with h | h
      · exact (c.dj a h).1 z
      · rw [List.mem_singleton.mp h] at z
        exact nh (.inl z)
  · show (F1.th ++ [q])[g1.length]? = some q
    rw [← c.len, List.getElem?_append_right (Nat.le_refl _), Nat.sub_self]; rfl
end
/-- a def of the text as it stands behind the top, with its facts -/
structure Df (K : PySem.W.Frag) (mg : Str → Option Value) (x : Str) (st : Stmt) (ps : List Str) where
  f : Addr
  fd : FuncData
  fn : Fun K x x st f fd
  gl : mg x = some (.ref f)
  bd : Binds K fd ps []
end Ev

/-! Ev8: classes: names of classes as values, static methods, classmethods, objects made, properties; defs with defaults and stars. -/
namespace Ev
open PySem PySem.Spec PyProof.Rows L2
/-- a statement that is not reached -/
def badS : MS := fun _ _ => .bad
theorem es_bad {W : Wd} {E : XK} {X : Cx} {st : Stmt} : PS X st (tMS W E badS) := ⟨fun pins s σ H D I ⟨F, e, g, S, p⟩ => p.elim⟩
/-- a def called by position, where no repr is under way -/
def FnP (P : Program) (w : World) (K : PySem.W.Frag) (mg : Str → Option Value) (base : Heap) (CX : CXT) (k : Nat) (f : Addr) (sp : Sp) : Prop :=
  ∀ (A : Around) (outer : List PySem.Env) (s : Shared) (H : Hp) (us : List Value) (vs : List V) (Q : VK) (E : XK), A.guards = some [] → Room k A → Env0 P w K mg base A outer s H → Vals vs us → sp vs H Q E →
    codeAny (model P w) A (.call (.ref f) ⟨us, []⟩) (CR CX outer P w H s Q E) s
section
variable {P : Program} {w : World} {K : PySem.W.Frag} {mg : Str → Option Value} {base : Heap} {CX : CXT} {j k n : Nat} {f : Addr} {fd : FuncData} {ps : List Str} {sp : Sp} {ds : List Value} {dvs : List V} {W : Wd} {fs : List D → List Cell → R D}
theorem FnP.up (F : FnP P w K mg base CX k f sp) (h : k ≤ j) : FnP P w K mg base CX j f sp := fun A out s H us vs Q E hg hr => F A out s H us vs Q E hg (hr.mono h)
theorem FnG.pos (G : FnG P w K mg base CX k f fd ps sp) (bd : Binds K fd ps ds) (hd : Vals dvs ds) : FnP P w K mg base CX k f (fun vs H Q E => sp (vs ++ dvs) H Q E) := fun A out s H us vs Q E hg hr e0 r hs => by
  have r2 : Vals (vs ++ dvs) (us ++ ds) := r.append hd
  have hl : (us ++ ds).length = ps.length := by rw [← r2.length]; exact G.ar _ _ _ _ hs
  exact G.go A out s H ⟨us, []⟩ (us ++ ds) (vs ++ dvs) Q E hg hr e0 (bd s us (e0.mod.kin.keeps fun b o e => (e0.bs b o e).1) hl) r2 hs
theorem FnG.pos0 (G : FnG P w K mg base CX k f fd ps sp) (bd : Binds K fd ps []) : FnP P w K mg base CX k f sp := fun A out s H us vs Q E hg hr e0 r hs =>
  G.pos (dvs := []) bd .nil A out s H us vs Q E hg hr e0 r (by show sp (vs ++ []) H Q E; rw [List.append_nil]; exact hs)
/-- a def whose last parameters have defaults, called without them -/
theorem FnG.dfl {m : Nat} {dfl : List D} (G : FnG P w K mg base CX k f fd ps (spEv W m fs)) (bd : ∃ ds, Vals dvs ds ∧ Binds K fd ps ds) (hm : n + dfl.length = m) (hr : ∀ F H, RepL W F H dfl dvs) : FnP P w K mg base CX k f (spEv W n fun ds g => fs (ds ++ dfl) g) := by
  obtain ⟨ds, hd, hb⟩ := bd
  refine fun A out s H us vs Q E hg hro e0 r ⟨nu, th, xs, g, c, rr, hl, p⟩ => G.pos hb hd A out s H us vs Q E hg hro e0 r ?_
  exact ⟨nu, th, xs ++ dfl, g, c, rr.append (hr _ _), by rw [List.length_append, hl, hm], p⟩
end
section
variable {W : Wd} {E : XK} {X : Cx} {CX : CXT} {k n c : Nat} {f C p g : Addr} {mc : Value} {fs : List D → List Cell → R D} {x m : Str} {apos pos : Pos} {o e : Expr} {es : List Expr} {mo : M D} {ma : M (List D)} {pl : Sem Bool}
theorem run_fnP {sp : Sp} {pins : List (Addr × Obj)} {σ : L2.St} {H : Hp} {s : Shared} {Q : VK} {us : List Value} {vs : List V} (F : FnP X.prog X.w X.K X.mg X.base CX k f sp) (hg : X.A.guards = some []) (hr : Room k X.A)
    (px : Passes CX X E) (I : Inv X pins σ H s) (r : Vals vs us) (h : sp vs H Q E) : wpAny (model X.prog X.w) X.A (call (.ref f) us) (EP X pins σ Q) X.xe s := by
  refine wpAny_call (codeAny_mono (F X.A X.stack s H us vs Q E hg hr I.env0 r h) fun res s' z => ?_)
  rcases res with er | (u | _ | _ | _)
  · exact px pins σ H s er s' I z
  all_goals first
    | exact I.after z
    | exact z.elim
theorem ev_callP {p1 : Pos} (F : FnP X.prog X.w X.K X.mg X.base CX k f (spEv W n fs)) (hG : X.A.guards = some []) (hr : Room k X.A) (hg : Gl X x) (hm : X.mg x = some (.ref f)) (hk : PySem.W.keepIn X.K (.ref f) = true) (px : Passes CX X E)
    (ha : PA X (e :: es) (tL W E ma)) (hdb : (x == ("__debug__" : Str)) = false := by decide) (he : starEach (e :: es) X.env = (false, eval e X.env) :: starEach es X.env := by rfl) (hpl : (backTo pos (starEach es X.env)).any (·.1) = false := by rfl) :
    PE X (.Call (.Name x p1) (e :: es) [] pos) (tM W E (callM n fs ma)) := by
  refine ⟨fun pins s σ H Q I ⟨F0, en, g, S, q⟩ => wpAny_Call_Name_kw (ld_glob I hg hm ?_ hdb)⟩
  refine PySem.W.callWith_K (h₀ := X.base) I.ok.mod.kin hk (thn (ha.run pos pins s σ H (fun vs H1 => spEv W n fs vs H1 Q E) I ⟨F0, en, g, S, (Post.bind q).mono fun ds g1 F1 H1 x1 c1 k1 vs r => sp_in c1 r k1⟩) fun us s1 ⟨vs, H1, I1, r, q⟩ => ⟨I1.kIn, ?_⟩) he hpl
  exact run_fnP F hG hr px I1 r q
/-! ### static methods, classmethods -/
structure SMet (K : PySem.W.Frag) (C : Addr) (mc : Value) (m : Str) (p g : Addr) : Prop where
  at_ : PySem.W.findCls K (.ref C) mc m = some (.get (.builtin "staticmethod.__get__") (.ref p) .none (.ref C))
  rc : ∃ rest, PySem.W.recIn K p "staticmethod" = some (.ref g :: rest)
  kp : PySem.W.keepIn K (.ref g) = true
theorem getsm_ok {pins : List (Addr × Obj)} {σ : L2.St} {H : Hp} {s : Shared} {A : Around} {E' : Value → Shared → Prop} {Q : Value × List Value → Shared → Prop} (I : Inv X pins σ H s) (r : ClX.CRead X.K C mc) (k : SMet X.K C mc m p g)
    (h : ∀ s', Inv X pins σ H s' → Q (.ref g, []) s') : wpAny (model X.prog X.w) A (getMethod (.ref C) m pl) Q E' s := by
  obtain ⟨rest, hp⟩ := k.rc
  refine PySem.W.method_cls I.kIn r.ga (PySem.W.cls_bind I.kIn r.rd k.at_ (wpAny_call (PySem.W.sm_get (s := { s with toks := s.toks + 1 }) I.kIn hp (PySem.W.handed_on rfl ?_))))
  exact h _ (I.tok _)
/-- the class at c alone -/
def onCl {α : Type} (c : Nat) (mo : M D) (k : M α) : M α := fun e g => (mo e g).bind fun d g1 => match d with
  | .cl c' => if c' = c then k e g1 else .bad
  | _ => .bad
theorem onCl_post {α : Type} {m2 : M α} {F : Fb} {H : Hp} {en : Env} {g : List Cell} {kk : α → List Cell → Fb → Hp → Prop} (h : Post W E F H (onCl c mo m2 en g) kk) :
    Post W E F H (mo en g) fun d g1 F1 H1 => ∀ v, Rep W F1 H1 d v → v = .ref (W.cl c) ∧ Post W E F1 H1 (m2 en g1) kk := by
  refine (Post.bind h).mono fun d g1 F1 H1 x1 c1 k1 v rv => ?_
  cases d with
  | cl c' =>
    by_cases hc : c' = c
    · subst hc
      simp only [↓reduceIte] at k1
      exact ⟨rv, k1⟩
    · simp only [if_neg hc] at k1
      exact k1.elim
  | _ => exact k1.elim
def smM (c n : Nat) (f : List D → List Cell → R D) (mo : M D) (ma : M (List D)) : M D := onCl c mo (callM n f ma)
def cmM (c n : Nat) (f : List D → List Cell → R D) (mo : M D) (ma : M (List D)) : M D := onCl c mo fun e g => (ma e g).bind fun ds g1 => if ds.length + 1 = n then f (.cl c :: ds) g1 else .bad
theorem ev_smeth (ho : PE X o (tM W E mo)) (r : ClX.CRead X.K (W.cl c) mc) (ks : SMet X.K (W.cl c) mc m p g) (F : FnP X.prog X.w X.K X.mg X.base CX k g (spEv W n fs)) (hG : X.A.guards = some []) (hr : Room k X.A) (px : Passes CX X E) (ha : PA X (e :: es) (tL W E ma))
    (hst : starEach (e :: es) X.env = (false, eval e X.env) :: starEach es X.env := by rfl) (hpl : (backTo pos (starEach es X.env)).any (·.1) = false := by rfl)
    (ht : eval (.Call (.Attribute o m apos) (e :: es) [] pos) X.env = (do
      let ov ← eval o X.env
      standAt apos.atName
      let (f, first) ← holding [ov] (getMethod ov m pl)
      callWith pos f first (backTo pos (starEach (e :: es) X.env)) (backToKw pos (keywordEach [] X.env))) := by rfl) :
    PE X (.Call (.Attribute o m apos) (e :: es) [] pos) (tM W E (smM c n fs mo ma)) := by
  refine ⟨fun pins s σ H Q I ⟨F0, en, g0, S, q⟩ => ?_⟩
  have q1 := (onCl_post q).mono fun d g1 F1 H1 x1 c1 k1 v rv => (⟨(k1 v rv).1, F1, en, g1, S.step x1 c1, (Post.bind (k1 v rv).2).mono fun ds g2 F2 H2 x2 c2 k2 vs rr => sp_in c2 rr k2⟩ : v = .ref (W.cl c) ∧ tL W E ma σ H1 fun vs H2 => spEv W n fs vs H2 Q E)
  refine PySem.W.methodCall_KW (pl := pl) (thn (ho.run pins s σ H _ I ⟨F0, en, g0, S, q1⟩) fun u s1 ⟨x, H1, I1, rx, ex, q⟩ => ?_) ht
  subst ex
  obtain rfl : u = Value.ref (W.cl c) := rx
  refine getsm_ok I1 r ks fun s2 I2 => ?_
  refine PySem.W.callWith_K (h₀ := X.base) (first := []) I.ok.mod.kin ks.kp (thn (ha.run pos pins s2 σ H1 _ I2 q) fun us s3 ⟨vs, H2, I3, rv, q2⟩ => ⟨I3.kIn, ?_⟩) hst hpl
  exact run_fnP F hG hr px I3 rv q2
end
section
variable {W : Wd} {E : XK} {X : Cx} {CX : CXT} {k n c : Nat} {f C p g : Addr} {mc : Value} {fs : List D → List Cell → R D} {x m : Str} {apos pos : Pos} {o e : Expr} {es : List Expr} {mo : M D} {ma : M (List D)} {pl : Sem Bool}
theorem run_fnPc {sp : Sp} {pins : List (Addr × Obj)} {σ : L2.St} {H : Hp} {s : Shared} {Q : VK} {us : List Value} {vs : List V} (F : FnP X.prog X.w X.K X.mg X.base CX k f sp) (hg : X.A.guards = some []) (hr : Room k X.A)
    (px : Passes CX X E) (I : Inv X pins σ H s) (r : Vals vs us) (h : sp vs H Q E) : codeAny (model X.prog X.w) X.A (.call (.ref f) ⟨us, []⟩) (fun r s' => match r with | .ok (.ret v) => EP X pins σ Q v s' | .ok _ => False | .error e => X.xe e s') s := by
  refine codeAny_mono (F X.A X.stack s H us vs Q E hg hr I.env0 r h) fun res s' z => ?_
  rcases res with er | (u | _ | _ | _)
  · exact px pins σ H s er s' I z
  all_goals first
    | exact I.after z
    | exact z.elim
theorem ev_cmeth (ho : PE X o (tM W E mo)) (r : ClX.CRead X.K (W.cl c) mc) (ks : ClX.CMet X.K (W.cl c) mc m p g) (F : FnP X.prog X.w X.K X.mg X.base CX k g (spEv W n fs)) (hG : X.A.guards = some []) (hr : Room k X.A) (px : Passes CX X E) (ha : PA X (e :: es) (tL W E ma))
    (hst : starEach (e :: es) X.env = (false, eval e X.env) :: starEach es X.env := by rfl) (hpl : (backTo pos (starEach es X.env)).any (·.1) = false := by rfl)
    (ht : eval (.Call (.Attribute o m apos) (e :: es) [] pos) X.env = (do
      let ov ← eval o X.env
      standAt apos.atName
      let (f, first) ← holding [ov] (getMethod ov m pl)
      callWith pos f first (backTo pos (starEach (e :: es) X.env)) (backToKw pos (keywordEach [] X.env))) := by rfl) :
    PE X (.Call (.Attribute o m apos) (e :: es) [] pos) (tM W E (cmM c n fs mo ma)) := by
  refine ⟨fun pins s σ H Q I ⟨F0, en, g0, S, q⟩ => ?_⟩
  have q1 := (onCl_post q).mono fun d g1 F1 H1 x1 c1 k1 v rv => (⟨(k1 v rv).1, F1, en, g1, S.step x1 c1, (Post.bind (k1 v rv).2).mono fun ds g2 F2 H2 x2 c2 k2 vs rr => by
    have e1 : (if ds.length + 1 = n then fs (.cl c :: ds) g2 else .bad) = (if (D.cl c :: ds).length = n then fs (.cl c :: ds) g2 else .bad) := rfl
    rw [e1] at k2
    exact sp_in (ds := .cl c :: ds) (vs := .ref (W.cl c) :: vs) c2 ⟨_, _, rfl, rfl, rr⟩ k2⟩ : v = .ref (W.cl c) ∧ tL W E ma σ H1 fun vs H2 => spEv W n fs (.ref (W.cl c) :: vs) H2 Q E)
  refine PySem.W.methodCall_KW (pl := pl) (thn (ho.run pins s σ H _ I ⟨F0, en, g0, S, q1⟩) fun u s1 ⟨x, H1, I1, rx, ex, q⟩ => ?_) ht
  subst ex
  obtain rfl : u = Value.ref (W.cl c) := rx
  refine ClX.getmethcm_ok I1 r ks fun s2 I2 => ?_
  refine ClX.callwith_cm I2 (ClX.base_none I1 (Nat.le_refl _)) ks.fi (thn (ha.run pos _ s2 σ H1 _ I2 q) fun us s3 ⟨vs, H2, I3, rv, q2⟩ => ⟨⟨ClX.pin_at I3, I3.kIn⟩, ?_⟩) hst hpl
  exact thn (wpAny_call (PySem.W.method_call (ClX.pin_at I3) (run_fnPc (us := .ref (W.cl c) :: us) (vs := .ref (W.cl c) :: vs) F hG hr px I3 (.cons rfl rv) q2))) fun _ _ y => ClX.unpinE y
/-! ### objects made: their one field is what __init__ works out -/
/-- an __init__'s promise: the object stands at x with no field, no data name it -/
def spIn (W : Wd) (c : Nat) (fs : List D → List Cell → R D) : Sp := fun vs H Q E => ∃ x dx rest nu th ds g, vs = V.ref x :: rest ∧ H x = some (.ins (W.cl c) dx []) ∧ x ∈ nu ∧ Cells W ⟨nu, [], th⟩ H g ∧ RepL W ⟨nu, [], th⟩ H ds rest ∧
  Post W E ⟨nu, [], th⟩ H (fs ds g) fun d _ F' H' => ∀ v, Rep W F' H' d v → Q .non (upd H' x (.ins (W.cl c) dx [(W.fd c, v)]))
/-- this frame as the object's __init__ sees it -/
def Fb.inn (F : Fb) (x : Addr) : Fb := ⟨x :: (F.nu ++ F.om), [], F.th⟩
theorem inn_has {F : Fb} {x a : Addr} : (F.inn x).has a ↔ a = x ∨ F.has a := by
  unfold Fb.has Fb.inn
  simp only [List.mem_cons, List.mem_append, List.not_mem_nil, false_or]
  constructor
  · rintro ((h | h | h) | h)
    · exact .inl h
    · exact .inr (.inl h)
    · exact .inr (.inr (.inl h))
    · exact .inr (.inr (.inr h))
  · rintro (h | h | h | h)
    · exact .inl (.inl h)
    · exact .inl (.inr (.inl h))
    · exact .inl (.inr (.inr h))
    · exact .inr h
/-- the heap with the new object -/
def mk0 (W : Wd) (c : Nat) (H : Hp) (x dx : Addr) : Hp := upd (upd H dx (.own x)) x (.ins (W.cl c) dx [])
section
variable {F : Fb} {H : Hp} {gg : List Cell} {a dx : Addr}
theorem mk0_keep (ha : H a = none) (hd : H dx = none) : ∀ b u, H b = some u → mk0 W c H a dx b = some u := fun b u e => by
  unfold mk0
  rw [upd_ne (ne_of_none e ha), upd_ne (ne_of_none e hd)]
  exact e
theorem mk0_up (ha : H a = none) (hd : H dx = none) : Up F (F.inn a) H (mk0 W c H a dx) := ⟨fun b u e n => ⟨mk0_keep ha hd b u e, fun z => by
  rcases inn_has.mp z with z | z
  · exact ne_of_none e ha z
  · exact n z⟩, [], by simp [Fb.inn]⟩
theorem mk0_cells (cc : Cells W F H gg) (ha : H a = none) (hd : H dx = none) : Cells W (F.inn a) (mk0 W c H a dx) gg := by
  refine ⟨cc.nd, cc.len, fun n b y h1 h2 => ?_, fun b z => ?_, fun b hb => ⟨fun z => ?_, by simp [Fb.inn]⟩, fun b z => by cases z⟩
  · obtain ⟨u, hu⟩ := cc.tr b (.inr (.inr (List.mem_of_getElem? h1)))
    exact (cc.cel n b y h1 h2).up (mk0_up ha hd) (by rw [mk0_keep ha hd b u hu, hu])
  · rcases inn_has.mp z with z | z
    · exact ⟨_, by rw [z]; exact upd_same⟩
    · obtain ⟨u, hu⟩ := cc.tr b z
      exact ⟨u, mk0_keep ha hd b u hu⟩
  · rcases List.mem_cons.mp z with z | z
    · obtain ⟨u, hu⟩ := cc.tr b (.inr (.inr hb))
      exact ne_of_none hu ha z
    · exact (List.mem_append.mp z).elim (cc.dj b hb).1 (cc.dj b hb).2
/-- behind __init__ -/
theorem mk_back {F' : Fb} {H' : Hp} {g' : List Cell} {o' : HO} (cc : Cells W F H gg) (ha : H a = none) (hd : H dx = none) (x : Xe (F.inn a) F' (mk0 W c H a dx) H') (c' : Cells W F' H' g') :
    Xe F ⟨F.nu, F.om, F'.th⟩ H (upd H' a o') ∧ Cells W ⟨F.nu, F.om, F'.th⟩ (upd H' a o') g' ∧ Up F' ⟨F.nu, F.om, F'.th⟩ H' (upd H' a o') ∧ ¬ (⟨F.nu, F.om, F'.th⟩ : Fb).has a := by
  have hnu : F'.nu = a :: (F.nu ++ F.om) := x.nu
  have hth : ∀ b, b ∈ F'.th → b ≠ a := fun b hb z => (c'.dj b hb).1 (by rw [hnu, z]; exact List.mem_cons_self)
  have hin : ∀ b, b ∈ F.nu ∨ b ∈ F.om → b ≠ a := fun b hb z => by
    obtain ⟨u, hu⟩ := cc.tr b (hb.elim .inl fun h => .inr (.inl h))
    exact ne_of_none hu ha z
  have hh : ∀ b, (⟨F.nu, F.om, F'.th⟩ : Fb).has b → F'.has b := fun b z => by
    rcases z with z | z | z
    · exact .inl (by rw [hnu]; exact List.mem_cons_of_mem _ (List.mem_append_left _ z))
    · exact .inl (by rw [hnu]; exact List.mem_cons_of_mem _ (List.mem_append_right _ z))
    · exact .inr (.inr z)
  have hx : ¬ (⟨F.nu, F.om, F'.th⟩ : Fb).has a := fun z => by
    rcases z with z | z | z
    · exact hin _ (.inl z) rfl
    · exact hin _ (.inr z) rfl
    · exact hth _ z rfl
  have up : Up F' ⟨F.nu, F.om, F'.th⟩ H' (upd H' a o') := by
    refine ⟨fun b u e n => ⟨?_, fun z => n (hh b z)⟩, [], by simp⟩
    rw [upd_ne fun z => n (.inl (by rw [hnu, z]; exact List.mem_cons_self))]
    exact e
  have keep : ∀ b u, H b = some u → b ∉ F.th → upd H' a o' b = some u := fun b u e n => by
    rw [upd_ne (ne_of_none e ha)]
    exact x.keep b u (mk0_keep ha hd b u e) n
  refine ⟨⟨keep, fun b u e => ?_, ?_, rfl, rfl⟩, ⟨c'.nd, c'.len, fun n b y h1 h2 => ?_, fun b z => ?_, fun b hb => ?_, cc.dj2⟩, up, hx⟩
  · obtain ⟨u', e'⟩ := x.st b u (mk0_keep ha hd b u e)
    exact ⟨u', by rw [upd_ne (ne_of_none e ha)]; exact e'⟩
  · obtain ⟨more, e1, e2⟩ := x.th
    refine ⟨more, e1, fun b hb => ?_⟩
    have := e2 b hb
    cases q : H b with
    | none => rfl
    | some u => rw [mk0_keep ha hd b u q] at this; cases this
  · exact (c'.cel n b y h1 h2).up up (upd_ne (hth b (List.mem_of_getElem? h1)))
  · obtain ⟨u, hu⟩ := c'.tr b (hh b z)
    have hb : b ≠ a := fun w => by subst w; exact hx z
    exact ⟨u, by rw [upd_ne hb]; exact hu⟩
  · have := (c'.dj b hb).1
    rw [hnu] at this
    exact ⟨fun z => this (List.mem_cons_of_mem _ (List.mem_append_left _ z)), fun z => this (List.mem_cons_of_mem _ (List.mem_append_right _ z))⟩
end
/-- C(..) -/
def mkM (c : Nat) (fs : List D → List Cell → R D) (ma : M (List D)) : M D := fun e g => (ma e g).bind fun ds g1 => (fs ds g1).bind fun d g2 => .ok (.ob c d) g2
theorem sp_make {F : Fb} {H : Hp} {gg : List Cell} {ds : List D} {vs : List V} {Q : VK} (cc : Cells W F H gg) (rr : RepL W F H ds vs) (q : Post W E F H ((fs ds gg).bind fun d g2 => .ok (.ob c d) g2) fun d _ F' H' => ∀ v, Rep W F' H' d v → Q v H')
    {a dx : Addr} (ha : H a = none) (hd : H dx = none) : spIn W c fs (V.ref a :: vs) (mk0 W c H a dx) (fun v H2 => v = .non ∧ Q (.ref a) H2) E := by
  refine ⟨a, dx, vs, a :: (F.nu ++ F.om), F.th, ds, gg, rfl, upd_same, List.mem_cons_self, mk0_cells cc ha hd, rr.up (mk0_up ha hd), ?_⟩
  have p := Post.bind q
  revert p
  generalize fs ds gg = r
  intro p
  cases r with
  | ok d g' =>
    intro F' H' x c' v rv
    obtain ⟨h1, h2, h3, h4⟩ := mk_back (o' := .ins (W.cl c) dx [(W.fd c, v)]) cc ha hd x c'
    exact ⟨rfl, p _ _ h1 h2 _ _ .refl h2 _ ⟨a, dx, v, rfl, upd_same, h4, rv.up h3⟩⟩
  | ex cc' d g' =>
    intro F' H' dx' v x c' rv hx
    have hc : H' a = some (.ins (W.cl c) dx []) := x.keep a _ upd_same fun z => by
      obtain ⟨u, hu⟩ := cc.tr a (.inr (.inr z))
      exact ne_of_none hu ha rfl
    obtain ⟨h1, h2, h3, h4⟩ := mk_back (o' := .ins (W.cl c) dx []) cc ha hd x c'
    have e : upd H' a (.ins (W.cl c) dx []) = H' := by
      funext b
      by_cases hb : b = a
      · rw [hb, upd_same, hc]
      · rw [upd_ne hb]
    rw [e] at h1 h2 h3
    exact p _ H' dx' v h1 h2 (rv.up h3) (hx.up h3)
  | bad => exact p.elim
theorem run_mkP {sp : Sp} {pins : List (Addr × Obj)} {σ : L2.St} {H : Hp} {s : Shared} {Q : VK} {us : List Value} {vs : List V} (M : Mk X.K C f) (F : FnP X.prog X.w X.K X.mg X.base CX k f sp) (hG : X.A.guards = some []) (hr : Room (k + 1) X.A) (hx : Passes CX X E) (I : Inv X pins σ H s) (r : Vals vs us)
    (h : ∀ x dx, H x = Option.none → H dx = Option.none → dx ≠ x → sp (V.ref x :: vs) (upd (upd H dx (.own x)) x (.ins C dx [])) (fun v H2 => v = .non ∧ Q (.ref x) H2) E) :
    wpAny (model X.prog X.w) X.A (call (.ref C) us) (EP X pins σ Q) X.xe s := by
  have hq := h (s.heap.objs.size + 1) s.heap.objs.size (I.hok.fresh (Nat.le_succ _)) (I.hok.fresh (Nat.le_refl _)) (Nat.ne_of_lt (Nat.lt_succ_self _))
  have I2 := Inv.made (C := C) I
  have r2 : Vals (V.ref (s.heap.objs.size + 1) :: vs) (Value.ref (s.heap.objs.size + 1) :: us) := .cons rfl r
  refine wpAny_call (make_map (f := f) I.kIn M.makes M.init (beq_iff_eq.mp M.fn) (codeAny_mono (F _ X.stack _ _ (Value.ref (s.heap.objs.size + 1) :: us) _ _ E hG (hr.make C us []) (I2.env0.make C us []) r2 hq) fun r s' hq' => ?_))
  cases r with
  | error e => exact hx pins σ _ _ e s' I2 hq'
  | ok fl =>
    cases fl with
    | ret u =>
      obtain ⟨v, H', I3, rv, ev, q3⟩ := I2.after hq'
      subst ev
      exact ⟨rv, ⟨V.ref (s.heap.objs.size + 1), H', I3, rfl, q3⟩⟩
    | next => exact False.elim hq'
    | brk => exact False.elim hq'
    | cont => exact False.elim hq'
theorem ev_make {p1 : Pos} (M : Mk X.K (W.cl c) f) (F : FnP X.prog X.w X.K X.mg X.base CX k f (spIn W c fs)) (hG : X.A.guards = some []) (hr : Room (k + 1) X.A) (px : Passes CX X E) (hg : Gl X x) (hm : X.mg x = some (.ref (W.cl c))) (ha : PA X (e :: es) (tL W E ma))
    (hdb : (x == ("__debug__" : Str)) = false := by decide) (he : starEach (e :: es) X.env = (false, eval e X.env) :: starEach es X.env := by rfl) (hpl : (backTo pos (starEach es X.env)).any (·.1) = false := by rfl) : PE X (.Call (.Name x p1) (e :: es) [] pos) (tM W E (mkM c fs ma)) := by
  refine ⟨fun pins s σ H Q I ⟨F0, en, g, S, q⟩ => wpAny_Call_Name_kw (ld_glob I hg hm ?_ hdb)⟩
  refine PySem.W.callWith_K (h₀ := X.base) I.ok.mod.kin M.kp (thn (ha.run pos pins s σ H _ I ⟨F0, en, g, S, (Post.bind q).mono fun ds g1 F1 H1 x1 c1 k1 vs r => (fun a dx h1 h2 _ => sp_make c1 r k1 h1 h2 : ∀ a dx, H1 a = Option.none → H1 dx = Option.none → dx ≠ a → spIn W c fs (V.ref a :: vs) (mk0 W c H1 a dx) (fun v H2 => v = .non ∧ Q (.ref a) H2) E)⟩) fun us s1 ⟨vs, H1, I1, r, q⟩ => ⟨I1.kIn, ?_⟩) he hpl
  exact run_mkP M F hG hr px I1 r q
/-- cls(*xs), cls a local name -/
def mkStarM (c : Nat) (fs : List D → List Cell → R D) (mo mx : M D) : M D := onCl c mo fun e g => (mx e g).bind fun d g1 => match d with
  | .tup ds => (fs ds g1).bind fun d g2 => .ok (.ob c d) g2
  | _ => .bad
end
/-! ### __init__ : if t: r ; self.f = m -/
def inE (N : Nat) (ds : List D) : Env := .no :: (ds.map .v ++ List.replicate (N - 1 - ds.length) .no)
@[irreducible] def inM (N : Nat) (t : M Bool) (r : MS) (m : M D) : List D → List Cell → R D := fun ds g => (t (inE N ds) g).bind fun b g1 => if b = true then (match r (inE N ds) g1 with
  | .ex c d g2 => .ex c d g2
  | _ => .bad) else m (inE N ds) g1
/-- the items go into one tuple -/
def inStar (fs : List D → List Cell → R D) : List D → List Cell → R D := fun ds g => if ds.length ≤ 16777216 then fs [.tup ds] g else .bad
section
variable {W : Wd} {E : XK} {X : Cx} {F : Fb} {H : Hp} {g : List Cell}
theorem inE_st {nu th : List Addr} {ds : List D} {vs : List V} {N : List Str} {x : Addr} (c : Cells W ⟨nu, [], th⟩ H g) (r : RepL W ⟨nu, [], th⟩ H ds vs) (hN : 0 < N.length) : St W ⟨nu, [], th⟩ (inE N.length ds) g (L2.start N (.ref x :: vs)) H := by
  have hl := r.length
  have no_own : ∀ (i : Nat) (fs : List D), ¬ (inE N.length ds)[i]? = some (.own fs) := fun i fs h => by
    cases i with
    | zero => cases h
    | succ i =>
      have h : (ds.map Slot.v ++ List.replicate (N.length - 1 - ds.length) Slot.no)[i]? = some (.own fs) := h
      by_cases hi : i < ds.length
      · rw [List.getElem?_append_left (by simpa using hi), List.getElem?_map, List.getElem?_eq_getElem hi] at h
        cases h
      · rw [List.getElem?_append_right (by simpa using hi), List.getElem?_replicate] at h
        split at h <;> cases h
  refine ⟨c, by simp only [inE, L2.start, List.length_cons, List.length_append, List.length_map, List.length_replicate]; omega, fun i d h => ?_, fun i fs h => absurd h (no_own i fs), fun i j fs hs a n h => absurd h (no_own i fs)⟩
  cases i with
  | zero => cases h
  | succ i =>
    have h : (ds.map Slot.v ++ List.replicate (N.length - 1 - ds.length) Slot.no)[i]? = some (.v d) := h
    by_cases hi : i < ds.length
    · rw [List.getElem?_append_left (by simpa using hi), List.getElem?_map, List.getElem?_eq_getElem hi] at h
      cases h
      obtain ⟨v, h1, h2⟩ := r.get (List.getElem?_eq_getElem hi)
      refine ⟨v, ?_, h2⟩
      show ((V.ref x :: vs).map some ++ List.replicate (N.length - (V.ref x :: vs).length) none)[i + 1]? = _
      rw [List.getElem?_append_left (by rw [List.length_map, List.length_cons, ← hl]; omega), List.getElem?_map]
      show Option.map some vs[i]? = _
      rw [h1]; rfl
    · rw [List.getElem?_append_right (by simpa using hi), List.getElem?_replicate] at h
      split at h <;> cases h
theorem in_body {N : Nat} {c : Nat} {cnd e : Expr} {rs : List Stmt} {fld : Str} {p1 p2 p3 p4 : Pos} {t : M Bool} {r : MS} {m : M D} {ds : List D} {σ : L2.St} {Q : VK} {x dx : Addr} {nu th : List Addr} (hN : X.N[0]? = some ("self" : Str)) (hv : Vis X.env.scope "self")
    (hc : PT X cnd (tB W E t)) (hr : PSs X rs (tMS W E r)) (hm : PE X e (tM W E m)) (hsw : swapsWith e (some (.Attribute (.Name "self" p2) fld p3)) p4.line X.env = pure false) (hcl : Cls X.K (W.cl c)) (hna : NoAttr X.K (W.cl c) fld) (hf : W.fd c = fld)
    (S : St W ⟨nu, [], th⟩ (inE N ds) g σ H) (h0 : σ[0]? = some (some (V.ref x))) (hx : H x = some (.ins (W.cl c) dx [])) (hxn : x ∈ nu)
    (p : Post W E ⟨nu, [], th⟩ H (inM N t r m ds g) fun d _ F' H' => ∀ v, Rep W F' H' d v → Q .non (upd H' x (.ins (W.cl c) dx [(W.fd c, v)]))) :
    ∃ tt, PSs X [.If cnd rs [] p1, .Assign [.Attribute (.Name "self" p2) fld p3] e p4] tt ∧ tt { nx := fun _ H' => Q .non H', rt := Q } σ H := by
  subst hf
  refine ⟨_, pss_cons (ps_if hc hr pss_nil) (pss_one (ps_fld (pe_var hN hv) hm hsw)), ?_⟩
  unfold inM at p
  refine ⟨_, _, g, S, (Post.bind p).mono fun b g1 F1 H1 x1 c1 k1 => ?_⟩
  have hom : F1.om = [] := x1.om
  cases b with
  | true =>
    simp only [↓reduceIte] at k1 ⊢
    refine ⟨F1, _, g1, S.step x1 c1, ?_⟩
    revert k1
    generalize r (inE N ds) g1 = rr
    intro k1
    cases rr with
    | ex cc d g2 => exact fun F' H' dx' v y c' rv hd => k1 F'.base H' dx' v ⟨fun a o h n => y.keep a o h n (by rw [hom]; simp), y.st, y.th, y.nu, hom.symm⟩ c' rv hd
    | _ => exact k1.elim
  | false =>
    simp only [Bool.false_eq_true, ↓reduceIte] at k1 ⊢
    refine ⟨F1, _, g1, S.step x1 c1, k1.mono fun d g2 F2 H2 x2 c2 k2 v rv => ⟨_, h0, x, W.cl c, dx, [], rfl, ?_, hcl, hna, by decide, k2 v rv⟩⟩
    have n1 : x ∉ th := fun z => (S.cells.dj x z).1 hxn
    have h1 := x1.keep x _ hx n1
    exact x2.keep x _ h1 fun z => (c1.dj x z).1 (by rw [x1.nu]; exact hxn)
end
section
variable {P : Program} {w : World} {mg : Str → Option Value} {base : Heap} {W : Wd} {k c : Nat} {x0 qual pv fld : Str} {st : Stmt} {f : Addr} {fd : FuncData} {N : List Str} {t : M Bool} {r : MS} {m : M D} {cnd e : Expr} {rs : List Stmt} {p1 p2 p3 p4 : Pos}
theorem cxUp0 : StX.CXUp CX0 := fun _ _ _ _ _ _ _ _ _ _ _ z => z
theorem in_star (F : Fun W.K x0 qual st f fd) (S : FnScope N ((["self"] : List Str) ++ [pv]) (defScope st)) (hN : N[0]? = some ("self" : Str))
    (hb : ∀ us rest : List Value, us.length = (["self"] : List Str).length → bindArgs fd ⟨us ++ rest, []⟩ = (newTuple rest >>= fun t => pure ((["self"] : List Str).zip us ++ [(pv, t)])))
    (hbody : defBody st = [.If cnd rs [] p1, .Assign [.Attribute (.Name "self" p2) fld p3] e p4]) (hcl : Cls W.K (W.cl c)) (hna : NoAttr W.K (W.cl c) fld) (hf : W.fd c = fld)
    (h : ∀ (cdv : Value) (A : Around) (out : List PySem.Env) (s : Shared) (H : Hp) (E : XK), (A.deeper (envOfC qual (defScope st) s.heap.objs.size f cdv)).guards = some [] → Room k (A.deeper (envOfC qual (defScope st) s.heap.objs.size f cdv)) →
      PT (cxOf CX0 P w W.K mg base N qual (defScope st) f cdv A out s H E).nox cnd (tB W E t) ∧ PSs (cxOf CX0 P w W.K mg base N qual (defScope st) f cdv A out s H E).nox rs (tMS W E r) ∧ PE (cxOf CX0 P w W.K mg base N qual (defScope st) f cdv A out s H E).nox e (tM W E m) ∧
      Vis (cxOf CX0 P w W.K mg base N qual (defScope st) f cdv A out s H E).nox.env.scope "self" ∧ swapsWith e (some (.Attribute (.Name "self" p2) fld p3)) p4.line (cxOf CX0 P w W.K mg base N qual (defScope st) f cdv A out s H E).nox.env = pure false) :
    FnP P w W.K mg base CX0 (k + 1) f (spIn W c (inStar (inM N.length t r m))) := by
  obtain ⟨oc, od, kV, doc, pm, an, cdv, ct, osl, rfl, lk, hcd⟩ := F.ex
  intro A outer s H us vs Q E hg hr e0 rv ⟨x, dx, rest, nu, th, ds, g, ev, hx, hxn, cc, rr, p⟩
  subst ev
  obtain ⟨u1, u2, eu, r1, r2⟩ := StX.vals_split (ws := [V.ref x]) (rest := rest) rv
  subst eu
  have hn : H s.heap.objs.size = Option.none := e0.hok.fresh (Nat.le_refl _)
  have hl1 : u1.length = (["self"] : List Str).length := by rw [← r1.length]; rfl
  unfold inStar at p
  have hz : ds.length ≤ 16777216 := by
    by_cases q : ds.length ≤ 16777216
    · exact q
    · rw [if_neg q] at p; exact p.elim
  rw [if_pos hz] at p
  have hz2 : rest.length ≤ sizeLine := by rw [← rr.length]; exact hz
  refine StX.run_bnd lk hcd S hr e0 (G := fun xs H2 => ∃ q, H q = Option.none ∧ xs = [V.ref x] ++ [V.ref q] ∧ H2 = upd H q (.tup rest)) (fun A' Ex Q' h => ?_) fun s2 H2 xs ⟨q, hq, ex, eH⟩ hr' => ?_
  · rw [hb u1 u2 hl1]
    refine wpAny_bind (wpAny_newTuple (wpAny_pure ?_) (by rw [← r2.length]; exact hz2))
    have new : ObjOk P w (upd H s.heap.objs.size (.tup rest)) (s.heap.push ({ cls := .type "tuple", data := .seq u2.toArray } : Obj)) s.heap.objs.size (.tup rest) := ⟨hz2, u2, r2, ⟨_, Heap.get?_push_size _ rfl, rfl, _, rfl⟩⟩
    have un := StX.un_laid (fs := frs outer) (s := s) (o := ({ cls := .type "tuple", data := .seq u2.toArray } : Obj)) (u := .tup rest) hn
    have z := h _ _ ([V.ref x] ++ [V.ref s.heap.objs.size]) (u1 ++ [Value.ref s.heap.objs.size]) (StX.env0_laid e0 new) un rfl (fun e s' => cxUp0 outer s H _ _ E e s' un (fun b o q => Heap.get?_push_of_some _ q) rfl) (r1.append (.cons rfl .nil))
      rfl ⟨_, hn, rfl, rfl⟩
    rw [List.zip_append hl1.symm] at z
    exact z
  · subst ex eH
    obtain ⟨d1, d2, d3, d4, d5⟩ := h cdv A outer s2 (upd H q (.tup rest)) E hg hr'
    have nq : ¬ (⟨nu, [], th⟩ : Fb).has q := cc.none hq
    have tup : RepL W ⟨nu, [], th⟩ (upd H q (.tup rest)) [.tup ds] [V.ref q] := RepL.one ⟨q, rest, rfl, .inl ⟨.inl upd_same, nq⟩, rr.up (Xe.new hq).up⟩
    have S0 := inE_st (N := N) (x := x) (cc.new hq) tup (List.getElem?_eq_some_iff.mp hN).1
    obtain ⟨tt, h1, h2⟩ := in_body (p1 := p1) (Q := Q) (dx := dx) hN d4 d1 d2 d3 d5 hcl hna hf S0 rfl (by rw [upd_ne (ne_of_none hx hq)]; exact hx) hxn (p.on (Xe.new hq))
    exact ⟨tt, by rw [hbody]; exact h1.nox, h2⟩
end
end Ev

/-! Ev9: isinstance, names of classes and constants, fields, properties, cls( *xs). -/
namespace Ev
open PySem PySem.Spec PyProof.Rows L2
section
variable {W : Wd} {E : XK} {X : Cx} {CX : CXT} {k n c : Nat} {f C p g : Addr} {mc : Value} {fs : List D → List Cell → R D} {x y m fld : Str} {p1 p2 apos pos : Pos} {o e : Expr} {es : List Expr} {mo me : M D} {ma : M (List D)} {pl : Sem Bool} {F : Fb} {H : Hp}
/-! ### isinstance -/
def tyD : D → Option String
  | .non => some "NoneType"
  | .bl _ => some "bool"
  | .int _ => some "int"
  | .str _ => some "str"
  | .tup _ => some "tuple"
  | .lst _ => some "list"
  | .sc _ => some "list"
  | .da _ => some "dict"
  | .dct _ => some "dict"
  | _ => none
theorem ty_of {d : D} {v : V} {t : String} (h : Rep W F H d v) (e : tyD d = some t) : TyX W.K H v (.type t) := by
  cases d with
  | non => cases e; cases (show v = .non from h); exact .base .non
  | bl b => cases e; cases (show v = .bl b from h); exact .base (.bl b)
  | int b => cases e; cases (show v = .int b from h); exact .base (.int b)
  | str b => cases e; cases (show v = .str b from h); exact .base (.str b)
  | tup ds =>
    cases e
    obtain ⟨a, vs, rfl, t, _⟩ := h
    rcases t with ⟨t | ⟨o, t⟩, _⟩ | ⟨o, its, n, lk, cl, _⟩
    · exact .base (.tup t)
    · exact .fTuple t
    · exact .kTuple lk cl
  | lst ds =>
    cases e
    obtain ⟨a, vs, rfl, t, _⟩ := h
    exact .base (.lst t)
  | sc ns =>
    cases e
    obtain ⟨a, rfl, t⟩ := h
    rcases t with ⟨⟨o, t⟩, _⟩ | ⟨o, its, n, lk, cl, _⟩
    · exact .base (.frz t)
    · exact .kList lk cl
  | da ds =>
    cases e
    obtain ⟨a, vs, rfl, t, _⟩ := h
    rcases t with t | ⟨o, t⟩
    · exact .base (.dK t)
    · exact .fDict t
  | dct ds =>
    cases e
    obtain ⟨a, rfl, t, _⟩ := h
    rcases t with t | ⟨o, t⟩
    · exact .base (.dK t)
    · exact .fDict t
  | _ => cases e
def isiD (T : String) : D → List Cell → Option D := fun d _ => match tyD d with
  | some t => (kitB t T).map .bl
  | none => none
theorem ev_isi {T : String} (hK : X.K = W.K) (hg : Gl X x) (hx : x = ("isinstance" : Str)) (hm : X.mg x = none) (hgT : Gl X y) (hmT : X.mg y = none) (hv : bootBuiltins x = some (.builtin "isinstance")) (hvT : bootBuiltins y = some (.type T)) (he : PE X e (tM W E me)) (hn : x ≠ "__name__" := by decide) (hnT : y ≠ "__name__" := by decide)
    (hd : (x == ("__debug__" : Str)) = false := by decide) (hdT : (y == ("__debug__" : Str)) = false := by decide)
    (s1 : starEach [e, .Name y p2] X.env = (false, eval e X.env) :: starEach [.Name y p2] X.env := by rfl) (s2 : starEach [.Name y p2] X.env = (false, eval (.Name y p2) X.env) :: starEach [] X.env := by rfl) (hpl : (backTo pos (starEach [.Name y p2] X.env)).any (·.1) = false := by rfl) :
    PE X (.Call (.Name x p1) [e, .Name y p2] [] pos) (tM W E (unM (isiD T) me)) := by
  refine weakE (pe_callB call_isi hg hm hv (pa_cons he (pa_cons (pe_bltn (v := .ty T) hgT hmT hvT rfl hnT hdT) pa_nil s2) s1) hn hd s1 hpl) fun σ H Q ⟨F, en, g, S, p⟩ => ?_
  refine ⟨F, en, g, S, (Post.bind p).mono fun x g1 F1 H1 x1 c1 p1 v r1 => ?_⟩
  obtain ⟨d, hd, kk⟩ := post_of p1
  unfold isiD at hd
  cases q : tyD x with
  | none => rw [q] at hd; cases hd
  | some t =>
    rw [q] at hd
    simp only at hd
    cases q2 : kitB t T with
    | none => rw [q2] at hd; cases hd
    | some b =>
      rw [q2] at hd
      cases hd
      exact ⟨v, .ty T, .type t, .type T, b, rfl, .ty T, by rw [hK]; exact ty_of r1 q, kit_ty q2, kk F1 H1 .refl c1 _ (rep_bl _)⟩
/-! ### names of the module: classes, constants -/
theorem ev_cls (hg : Gl X x) (hm : X.mg x = some (.ref (W.cl c))) (hd : (x == ("__debug__" : Str)) = false := by decide) : PE X (.Name x pos) (tM W E (conM (.cl c))) :=
  weakE (pe_glob (v := .ref (W.cl c)) hg hm rfl hd) fun _ _ _ h => r_con (d := .cl c) (fun _ _ => rfl) h
theorem ev_gint {i : Int} (hg : Gl X x) (hm : ∃ t, X.mg x = some (.int i t)) (hd : (x == ("__debug__" : Str)) = false := by decide) : PE X (.Name x pos) (tM W E (conM (.int i))) := by
  obtain ⟨t, hm⟩ := hm
  exact weakE (pe_glob (v := .int i) hg hm ⟨t, rfl⟩ hd) fun _ _ _ h => r_con (d := .int i) (fun _ _ => rfl) h
/-! ### fields, properties -/
/-- the one field of an object of one of the first n classes -/
def fldD (n : Nat) : D → List Cell → Option D := fun d _ => match d with
  | .ob c d => if c < n then some d else none
  | _ => none
theorem fld_of {n : Nat} {d x : D} {v : V} {g : List Cell} (h : Rep W F H x v) (e : fldD n x g = some d) : ∃ c a dx u, c < n ∧ x = .ob c d ∧ v = .ref a ∧ H a = some (.ins (W.cl c) dx [(W.fd c, u)]) ∧ Rep W F H d u := by
  cases x with
  | ob c d' =>
    by_cases hc : c < n
    · have e : (if c < n then some d' else none) = some d := e
      rw [if_pos hc] at e
      cases e
      obtain ⟨a, dx, u, h1, h2, _, h3⟩ := h
      exact ⟨c, a, dx, u, hc, rfl, h1, h2, h3⟩
    · have e : (if c < n then some d' else none) = some d := e
      rw [if_neg hc] at e
      cases e
  | _ => cases e
/-- what stands of the first n classes -/
structure FldOk (W : Wd) (n : Nat) (fld : Str) : Prop where
  cls : ∀ c, c < n → Cls W.K (W.cl c)
  no : ∀ c, c < n → NoAttr W.K (W.cl c) fld
  fd : ∀ c, c < n → W.fd c = fld
theorem ev_fld (hK : X.K = W.K) (K : FldOk W n fld) (he : PE X e (tM W E me)) (hb : attributeBase e fld X.env (eval e X.env) = eval e X.env := by rfl) : PE X (.Attribute e fld pos) (tM W E (unM (fldD n) me)) :=
  weakE (pe_fld he hb) fun σ H Q ⟨F, en, g, S, p⟩ => by
    refine ⟨F, en, g, S, (Post.bind p).mono fun x g1 F1 H1 x1 c1 p1 v r1 => ?_⟩
    obtain ⟨d, hd, kk⟩ := post_of p1
    obtain ⟨c, a, dx, u, hc, _, h1, h2, h3⟩ := fld_of r1 hd
    refine ⟨a, W.cl c, dx, [(W.fd c, u)], u, h1, h2, by rw [hK]; exact K.cls c hc, by rw [hK]; exact K.no c hc, ?_, kk F1 H1 .refl c1 _ h3⟩
    rw [← K.fd c hc]
    simp [List.lookup]
/-- a property that hands out the field -/
structure PrpOk (P : Program) (w : World) (W : Wd) (mg : Str → Option Value) (base : Heap) (n : Nat) (m fld : Str) : Prop where
  cls : ∀ c, c < n → Cls W.K (W.cl c)
  fd : ∀ c, c < n → W.fd c = fld
  prp : ∀ c, c < n → ∃ (p g : Addr) (fd : FuncData), PropOf W.K (W.cl c) m p g ∧ FnOk P w W.K mg base CX0 1 g fd ["self"] (getSp (W.cl c) fld) ∧ Binds W.K fd ["self"] []
theorem getprop1_ok {pins : List (Addr × Obj)} {σ : L2.St} {H : Hp} {s : Shared} {Q : VK} {b : Bool} {E' : Value → Shared → Prop} {a dx : Addr} {us : List (Str × V)} {v : V} (P : PrpOk X.prog X.w W X.mg X.base n m fld) (hK : X.K = W.K) (hr : Room 2 X.A) (I : Inv X pins σ H s) (hc : c < n)
    (ea : H a = some (.ins (W.cl c) dx us)) (hl : us.lookup fld = some v) (q : Q v H) : wpAny (model X.prog X.w) X.A (getAttr (.ref a) m b) (EP X pins σ Q) E' s := by
  obtain ⟨p, g, fd, h1, h2, h3⟩ := P.prp c hc
  have h : getSp (W.cl c) fld [V.ref a] H Q (fun _ _ _ => False) := ⟨a, dx, us, v, rfl, ea, hl, q⟩
  have h2' : FnOk X.prog X.w X.K X.mg X.base CX0 1 g fd ["self"] (getSp (W.cl c) fld) := by rw [hK]; exact h2
  exact getprop_ok (k := 1) (ps := ["self"]) (ds := []) (dvs := []) (E := fun _ _ _ => False) I ea (by rw [hK]; exact P.cls c hc) (by rw [hK]; exact h1) h2' hr (by rw [hK]; exact h3) .nil pass00 h
theorem ev_prp (hK : X.K = W.K) (P : PrpOk X.prog X.w W X.mg X.base n m fld) (hr : Room 2 X.A) (he : PE X e (tM W E me)) (hb : attributeBase e m X.env (eval e X.env) = eval e X.env := by rfl) : PE X (.Attribute e m pos) (tM W E (unM (fldD n) me)) := by
  refine ⟨fun pins s σ H Q I ⟨F, en, g, S, p⟩ => ?_⟩
  refine attr_of hb (thn (he.run pins s σ H (fun v H1 => ∃ c a dx u, c < n ∧ v = .ref a ∧ H1 a = some (.ins (W.cl c) dx [(W.fd c, u)]) ∧ Q u H1) I ⟨F, en, g, S, (Post.bind p).mono fun x g1 F1 H1 x1 c1 p1 v r1 => ?_⟩) fun u s1 ⟨x, H1, I1, rx, c, a, dx, w, hc, ex, ea, q⟩ => ?_)
  · obtain ⟨d, hd, kk⟩ := post_of p1
    obtain ⟨c, a, dx, u, hc, _, h1, h2, h3⟩ := fld_of r1 hd
    exact ⟨c, a, dx, u, hc, h1, h2, kk F1 H1 .refl c1 _ h3⟩
  · subst ex
    obtain rfl : u = Value.ref a := rx
    exact getprop1_ok P hK hr I1 hc ea (by rw [← P.fd c hc]; simp [List.lookup]) q
/-! ### cls( *xs) -/
theorem ev_mkStar {mx : M D} {sp_ : Pos} {e : Expr} (hK : X.K = W.K) (M : Mk X.K (W.cl c) f) (F : FnP X.prog X.w X.K X.mg X.base CX k f (spIn W c fs)) (hG : X.A.guards = some []) (hr : Room (k + 1) X.A) (px : Passes CX X E) (ho : PE X (.Name x p1) (tM W E mo)) (hx : PE X e (tM W E mx))
    (hst : starEach [.Starred e sp_] X.env = [(true, eval e X.env)] := by rfl) : PE X (.Call (.Name x p1) [.Starred e sp_] [] pos) (tM W E (mkStarM c fs mo mx)) := by
  refine ⟨fun pins s σ H Q I ⟨F0, en, g, S, q⟩ => wpAny_Call_Name_kw ?_⟩
  have q1 := (onCl_post q).mono fun d g1 F1 H1 x1 c1 k1 v rv => (⟨(k1 v rv).1, F1, en, g1, S.step x1 c1, (Post.bind (k1 v rv).2).mono fun d g2 F2 H2 x2 c2 k2 y rr => by
    cases d with
    | tup ds =>
      obtain ⟨a, vs, e1, t, rl⟩ := rr
      exact ⟨a, vs, e1, by rw [hK]; exact t.seq, fun b dx h1 h2 _ => sp_make c2 rl k2 h1 h2⟩
    | _ => exact k2.elim⟩ : v = .ref (W.cl c) ∧ tM W E mx σ H1 fun y H2 => ∃ a vs, y = V.ref a ∧ SqT X.K H2 a vs ∧ ∀ b dx, H2 b = Option.none → H2 dx = Option.none → dx ≠ b → spIn W c fs (V.ref b :: vs) (mk0 W c H2 b dx) (fun v H2 => v = .non ∧ Q (.ref b) H2) E)
  refine thn (ho.run pins s σ H _ I ⟨F0, en, g, S, q1⟩) fun u s1 ⟨v, H1, I1, rv, ev, q⟩ => ?_
  subst ev
  obtain rfl : u = Value.ref (W.cl c) := rv
  refine PySem.W.callWith_S (h₀ := X.base) I.ok.mod.kin M.kp (thn (hx.run pins s1 σ H1 _ I1 q) fun v s2 ⟨y, H2, I2, ry, a, xs, ey, hxs, q2⟩ => ?_) hst
  subst ey
  obtain rfl : v = Value.ref a := ry
  exact StX.star_any I2 (.inl hxs) fun us s3 I3 rv => ⟨I3.kIn, run_mkP M F hG hr px I3 rv q2⟩
end
end Ev

/-! Ev10: enumerate over tuples and lists. -/
namespace PySem
open PySem.Spec
theorem ev_enum_newT (tp : Addr) (its : Array Value) (m : Nat) (dd : Option Addr) (ss : Array (Option Value)) :
    Meets (Builtin.«enumerate.__new__» ⟨[.type "enumerate", .ref tp], []⟩) (fun _ R s => s.heap.get? tp = some { cls := .type "tuple", dict := dd, data := .seq its m, slots := ss } ∧
      R (.ok (.ret (.ref (s.heap.push { cls := .type "tuple_iterator", data := .fields #[.ref tp, .int 0 0] }).objs.size)))
        { s with heap := (s.heap.push { cls := .type "tuple_iterator", data := .fields #[.ref tp, .int 0 0] }).push { cls := .type "enumerate", data := .fields #[.none, .bool false, .ref s.heap.objs.size, rawInt 0, .none, .none] } }) :=
  .of_wp fun prog w A R s q => by
    obtain ⟨hh, gg, dr, tk, os⟩ := s
    obtain ⟨hl, q⟩ := q
    have hs1 := sub_enumerate
    have hT : Heap.IsTuple (Shared.heap ⟨hh, gg, dr, tk, os⟩) tp its := ⟨_, hl, rfl, m, rfl⟩
    wp_walk using wpAny_loadPart' hl
    refine wpAny_stack_any fun z => wpAny_pure ?_
    split
    · rename_i c _ _ _ _ _
      cases (c == Value.type "enumerate")
      · wp_walk using wpAny_loadPart' hl, wpAny_pyIter_tuple hT
        exact ⟨_, rfl, q⟩
      · wp_walk using wpAny_loadPart' hl, wpAny_pyIter_tuple hT
        exact ⟨_, rfl, q⟩
    · wp_walk using wpAny_loadPart' hl, wpAny_pyIter_tuple hT
      exact ⟨_, rfl, q⟩
section
variable {prog : Program} {w : World} {A : Around} {E : Value → Shared → Prop} {s : Shared}
theorem ev_enum_callT {tp : Addr} {its : Array Value} {Q : Value → Shared → Prop} (hT : s.heap.IsTuple tp its)
    (q : ∀ h2, IsEnum h2 (s.heap.objs.size + 1) s.heap.objs.size 0 .none → h2.IsTupleIter s.heap.objs.size tp 0 → h2.objs.size = s.heap.objs.size + 2 →
      (∀ b o, s.heap.get? b = some o → h2.get? b = some o) → Q (.ref (s.heap.objs.size + 1)) { s with heap := h2 }) :
    wpAny (model prog w) A (call (.type "enumerate") [.ref tp]) Q E s := by
  obtain ⟨⟨c, dd, dt, ss⟩, hl, hc, m, hd⟩ := hT
  have hc : c = .type "tuple" := hc
  have hd : dt = .seq its m := hd
  subst hc
  subst hd
  refine callType_new F.called_enumerate (by decide) (F.typeCall_enumerate_1 _) (F.newCall_enumerate_1 _) (fun ob => F.args_object_init_2 ob _) F.entry_enumerate_new
    (ev_enum_newT tp its m dd ss) ⟨hl, ?_⟩
  have hz : (s.heap.push { cls := .type "tuple_iterator", data := .fields #[.ref tp, .int 0 0] }).objs.size = s.heap.objs.size + 1 := Heap.size_push ..
  show _ ∧ _
  rw [hz]
  have he : IsEnum ((s.heap.push { cls := .type "tuple_iterator", data := .fields #[.ref tp, .int 0 0] }).push
      { cls := .type "enumerate", data := .fields #[.none, .bool false, .ref s.heap.objs.size, rawInt 0, .none, .none] }) (s.heap.objs.size + 1) s.heap.objs.size 0 .none := by
    have z := Heap.get?_push_size (s.heap.push { cls := .type "tuple_iterator", data := .fields #[.ref tp, .int 0 0] })
      (o := { cls := .type "enumerate", data := .fields #[.none, .bool false, .ref s.heap.objs.size, rawInt 0, .none, .none] }) rfl
    rw [hz] at z; exact z
  refine ⟨⟨_, he, rfl⟩, q _ he ⟨_, Heap.get?_push_of_some _ (Heap.get?_push_size _ rfl), rfl, rfl⟩ (by rw [Heap.size_push, hz]) fun b o x => Heap.get?_push_of_some _ (Heap.get?_push_of_some _ x)⟩
end
end PySem
namespace Ev
open PySem PySem.Spec PyProof.Rows L2
/-- the tuple at a, each item in a new pair -/
def IteT (K : PySem.W.Frag) (a : Addr) : It :=
  ⟨fun i H => ∃ (xs : List V) (x : V), SqT K H a xs ∧ xs[i]? = some x, fun i H v H' => ∃ T x, v = .ref T ∧ H T = none ∧ H' = upd H T (.tup [.int (i : Nat), x]) ∧ ∀ xs, SqT K H a xs → xs[i]? = some x, fun i H => ∃ xs : List V, SqT K H a xs ∧ xs.length = i⟩
theorem turn_enumT {P : Program} {w : World} {K : PySem.W.Frag} {elts : List Expr} {kk : Nat} {tpos : Pos} (a e it : Addr) :
    Turn P w K (.Tuple elts kk tpos) (IteT K a) [e, it] e (fun i h => (∃ old, IsEnum h e it ((i : Nat) : Int) old) ∧ h.IsTupleIter it a i ∧ e ≠ it) where
  mem := by simp
  obj := fun i h st b hb => by
    obtain ⟨⟨old, he⟩, ⟨o, ho, hc, hd⟩, _⟩ := st
    rcases (show b = e ∨ b = it by simpa using hb) with z | z
    · rw [z]; exact ⟨_, he, fun v q => nomatch q⟩
    · rw [z]; exact ⟨o, ho, fun v q => by rw [hd] at q; cases q⟩
  keep := fun i h h' st k => let ⟨⟨old, he⟩, hi, hne⟩ := st; ⟨⟨old, k e (by simp) _ he⟩, hi.at fun o q => k it (by simp) o q, hne⟩
  item := by
    intro X hP hw hK hc i pins s σ H E I hf st hg
    subst hP hw hK
    obtain ⟨⟨old, he⟩, hit, hne⟩ := st
    obtain ⟨xs, x, hq, hx⟩ := hg
    obtain ⟨its, rv, tp, hz⟩ := I.tuple hq
    obtain ⟨u, hu, ru⟩ := rv.get hx
    have hel : e < s.heap.objs.size := Heap.lt_size he
    have hil : it < s.heap.objs.size := by obtain ⟨_, q, _⟩ := hit; exact Heap.lt_size q
    have hai : a ≠ it := fun z => by
      obtain ⟨o1, h1, c1, _⟩ := tp
      obtain ⟨o2, h2, c2, _⟩ := hit
      rw [z, h2] at h1
      cases h1
      rw [c2] at c1
      exact absurd c1 (by decide)
    have hae : e ≠ a := fun z => by
      obtain ⟨o1, h1, c1, _⟩ := tp
      have he' : s.heap.get? e = some _ := he
      rw [← z, he'] at h1
      cases h1
      exact absurd (show Value.type "enumerate" = Value.type "tuple" from c1) (by decide)
    have D := Draws.tuple (prog := X.prog) (w := X.w) (A := X.A.in1) (I.ok.hd hc) it a hai its.toArray
    have hlt : i < its.toArray.size := by
      have := (List.getElem?_eq_some_iff.mp hu).1
      simpa using this
    refine wpAny_pyNext_enum_itemD D he ⟨hit, tp⟩ hlt hne (by simp [hne, hae]) fun y h' tk hP ho hst hT hsz hk => ?_
    have hy : y = u := by
      have hP : its.toArray[i]? = some y := hP
      rw [List.getElem?_toArray, hu] at hP
      exact (Option.some.inj hP).symm
    subst hy
    refine ⟨_, rfl, wpAny_letOwnedTupleGo_enum (s := { s with heap := h', toks := tk + 1 }) ho fun h'' he' sb => ?_⟩
    have hT2 : h''.get? s.heap.objs.size = some { cls := .type "tuple", data := .seq #[.int i tk, y] } := (sb.2 _ (Nat.ne_of_gt hel)).trans hT
    have new : ObjOk X.prog X.w (upd H s.heap.objs.size (.tup [.int (i : Nat), x])) h'' s.heap.objs.size (.tup [.int (i : Nat), x]) :=
      ⟨by show 2 ≤ sizeLine; decide, [.int i tk, y], .cons ⟨_, rfl⟩ (.cons ru .nil), ⟨_, hT2, rfl, _, rfl⟩⟩
    have I1 : Inv X pins σ (upd H s.heap.objs.size (.tup [.int (i : Nat), x])) { s with heap := h'', toks := tk + 1 } :=
      I.turnedNew (ch := [e, it]) (fun b ob hb q => (sb.2 b (fun z => hb (by simp [z]))).trans (hk b ob (fun z => hb (by simp [z])) (fun z => hb (by simp [z])) q)) hf (Nat.le_refl _) new
    refine ⟨.ref s.heap.objs.size, _, I1, rfl, ⟨_, x, rfl, I.hok.fresh (Nat.le_refl _), rfl, fun ys hy => by rw [I.tuple_inj hy hq]; exact hx⟩, ⟨⟨y, ?_⟩, hst.1.at fun o q => (sb.2 it (Ne.symm hne)).trans q, hne⟩, fun b hb => ?_⟩
    · rw [show ((i + 1 : Nat) : Int) = (i : Int) + 1 by omega]
      exact he'
    · have hb' : b < s.heap.objs.size := by
        rcases (show b = e ∨ b = it by simpa using hb) with z | z
        · rw [z]; exact hel
        · rw [z]; exact hil
      rw [upd_ne (Nat.ne_of_lt hb')]
      exact (hf b hb).1
  done := by
    intro X hP hw hK hc i pins s σ H E I hf st hg
    subst hP hw hK
    obtain ⟨⟨old, he⟩, hit, hne⟩ := st
    obtain ⟨xs, hq, hx⟩ := hg
    obtain ⟨its, rv, tp, hz⟩ := I.tuple hq
    obtain ⟨f0, f1, f2, f3, f4, f5⟩ := hf it (by simp)
    have hl := rv.length
    have hn : i = its.toArray.size := by rw [← hx, hl]; simp
    have hai : a ≠ it := fun z => by
      obtain ⟨o1, h1, c1, _⟩ := tp
      obtain ⟨o2, h2, c2, _⟩ := hit
      rw [z, h2] at h1
      cases h1
      rw [c2] at c1
      exact absurd c1 (by decide)
    have D := Draws.tuple (prog := X.prog) (w := X.w) (A := X.A.in1) (I.ok.hd hc) it a hai its.toArray
    exact wpAny_pyNext_enum_endD D he ⟨hn ▸ hit, tp⟩ fun h' eb => ⟨rfl, I.turned (t' := s.toks) (fun b o hb q => eb b o hb q) f0 f1 f3 f4 f5⟩
  self := fun A i s Q E st h => let ⟨⟨_, he⟩, _⟩ := st; wpAny_pyIter_enum he h
theorem walk_enumT {K : PySem.W.Frag} {a : Addr} {xs : List V} : Walk (IteT K a) xs.length (fun H => SqT K H a xs) (YPair (fun i => some (.int (i : Nat))) (fun i => xs[i]?)) :=
  ⟨fun i H hi q => ⟨xs, xs[i], q, List.getElem?_eq_getElem hi⟩, fun H q => ⟨xs, q, rfl⟩, fun i H v H' _ q ⟨T, x, h1, h2, h3, h4⟩ => ⟨T, _, x, h1, h2, h3, rfl, h4 xs q⟩⟩
theorem walk_enumL {K : PySem.W.Frag} {a : Addr} {xs : List V} : Walk (Ite K a) xs.length (fun H => SqL K H a xs) (YPair (fun i => some (.int (i : Nat))) (fun i => xs[i]?)) :=
  ⟨fun i H hi q => ⟨xs, xs[i], q, List.getElem?_eq_getElem hi⟩, fun H q => ⟨xs, q, Nat.le_refl _⟩, fun i H v H' _ q ⟨T, x, h1, h2, h3, h4⟩ => ⟨T, _, x, h1, h2, h3, rfl, h4 xs q⟩⟩
theorem pi_enumA {X : Cx} {e : Expr} {ta : TA} {p pos tpos : Pos} {elts : List Expr} {kk : Nat} (hg : Gl X "enumerate") (hm : X.mg "enumerate" = none) (ha : PA X [e] ta) (hs : starEach [e] X.env = [(false, eval e X.env)] := by rfl) :
    PI X (.Tuple elts kk tpos) (.Call (.Name "enumerate" p) [e] [] pos) (fun σ H R => ta σ H fun vs H1 => ∃ a, vs = [.ref a] ∧ ((∃ xs, SqL X.K H1 a xs ∧ R (Ite X.K a) H1) ∨ ∃ xs, SqT X.K H1 a xs ∧ R (IteT X.K a) H1)) := by
  refine ⟨fun pins s σ H R I h => ?_⟩
  refine Call_ (ld_blt I hg hm boot_enumerate (PyProof.Rows.callWith_type1 (thn (ha.run pos pins s σ H _ I h) fun us s1 ⟨vs, H1, I1, r1, q1⟩ => ?_) hs rfl))
  obtain ⟨a, ex, q1⟩ := q1
  subst ex
  have ok : ∀ b, b ∈ [s1.heap.objs.size + 1, s1.heap.objs.size] → FpOk X pins H1 b := fun b hb => by
    have hle : s1.heap.objs.size ≤ b := by
      rcases (show b = s1.heap.objs.size + 1 ∨ b = s1.heap.objs.size by simpa using hb) with z | z <;> omega
    exact I1.fpOk hle (I1.hok.fresh hle)
  cases r1 with
  | cons r rr =>
    cases rr
    cases r
    rcases q1 with ⟨xs, hq, q⟩ | ⟨xs, hq, q⟩
    · obtain ⟨its, rv, tp, hz⟩ := I1.list hq
      exact call_enumerate_list tp.isList fun h' he hit hsz hk => wpAny_pyIter_enum he ⟨s1.heap.objs.size + 1, [s1.heap.objs.size + 1, s1.heap.objs.size], _, _, H1, rfl, I1.kept (t' := s1.toks) hk, turn_enum a (s1.heap.objs.size + 1) s1.heap.objs.size, ⟨⟨.none, he⟩, hit, Nat.succ_ne_self _⟩, ok, q⟩
    · obtain ⟨its, rv, tp, hz⟩ := I1.tuple hq
      exact ev_enum_callT tp fun h' he hit hsz hk => wpAny_pyIter_enum he ⟨s1.heap.objs.size + 1, [s1.heap.objs.size + 1, s1.heap.objs.size], _, _, H1, rfl, I1.kept (t' := s1.toks) hk, turn_enumT a (s1.heap.objs.size + 1) s1.heap.objs.size, ⟨⟨.none, he⟩, hit, Nat.succ_ne_self _⟩, ok, q⟩
/-- numbered from 0 -/
def enumL (xs : List D) : List D := (List.range xs.length).zipWith (fun i x => .tup [.int (i : Nat), x]) xs
def enumIt (m : M (List D)) : M (List D) := fun e g => (m e g).bind fun ds g1 => match ds with
  | [.lst xs] => .ok (enumL xs) g1
  | [.tup xs] => .ok (enumL xs) g1
  | _ => .bad
@[simp] theorem enumL_length (xs : List D) : (enumL xs).length = xs.length := by simp [enumL]
theorem enumL_at {xs : List D} {i : Nat} {d : D} (h : xs[i]? = some d) : (enumL xs)[i]? = some (.tup [.int (i : Nat), d]) := by
  have hi := (List.getElem?_eq_some_iff.mp h).1
  unfold enumL
  rw [List.getElem?_zipWith, List.getElem?_range hi, h]
theorem enumL_get {xs : List D} {i : Nat} {y : D} (h : (enumL xs)[i]? = some y) : ∃ d, xs[i]? = some d ∧ y = .tup [.int (i : Nat), d] := by
  have hi : i < xs.length := by
    have := (List.getElem?_eq_some_iff.mp h).1
    simpa using this
  rw [enumL_at (List.getElem?_eq_getElem hi)] at h
  exact ⟨_, List.getElem?_eq_getElem hi, (Option.some.inj h).symm⟩
section
variable {W : Wd} {E : XK} {X : Cx} {a : Expr} {mr : M (List D)} {p1 pos tpos : Pos}
theorem ei_enum {elts : List Expr} {kk : Nat} (hK : X.K = W.K) (hg : Gl X "enumerate") (hm : X.mg "enumerate" = none) (ha : PA X [a] (tL W E mr)) (hs : starEach [a] X.env = [(false, eval a X.env)] := by rfl) :
    PI X (.Tuple elts kk tpos) (.Call (.Name "enumerate" p1) [a] [] pos) (tIt W E (enumIt mr)) :=
  weakI (pi_enumA hg hm ha hs) fun σ H R ⟨F, e, g, S, p⟩ => by
    refine ⟨F, e, g, S, (Post.bind p).mono fun ds g1 F1 H1 x1 c1 k vs r => ?_⟩
    cases ds with
    | nil => exact k.elim
    | cons d ds =>
      cases ds with
      | cons _ _ => cases d <;> exact k.elim
      | nil =>
        obtain ⟨v, rfl, rv⟩ := rep1 r
        cases d <;> try exact k.elim
        · rename_i xs
          obtain ⟨q1, us, rfl, t1, r1⟩ := rv
          refine ⟨q1, rfl, .inr ⟨us, by rw [hK]; exact t1.seq, k F1 H1 .refl c1 _ ⟨_, _, by rw [enumL_length, r1.length]; exact walk_enumT, fun F2 H2 x => by rw [hK]; exact (t1.up x).seq, ?_⟩⟩⟩
          intro i H2 w H3 F2 g2 hi x c ⟨T, z1, z2, e1, e2, e3, e4, e5⟩
          obtain ⟨d2, h2, k2⟩ := r1.get' e5
          cases e4
          rw [e1, e3]
          exact ⟨_, enumL_at h2, pair_rep c e2 (rep_int _) (k2.up x), keep_new e2⟩
        · rename_i xs
          obtain ⟨q1, us, rfl, t1, n1, r1⟩ := rv
          refine ⟨q1, rfl, .inl ⟨us, .of t1, k F1 H1 .refl c1 _ ⟨_, _, by rw [enumL_length, r1.length]; exact walk_enumL, fun F2 H2 x => SqL.of (lst_stays t1 n1 x), ?_⟩⟩⟩
          intro i H2 w H3 F2 g2 hi x c ⟨T, z1, z2, e1, e2, e3, e4, e5⟩
          obtain ⟨d2, h2, k2⟩ := r1.get' e5
          cases e4
          rw [e1, e3]
          exact ⟨_, enumL_at h2, pair_rep c e2 (rep_int _) (k2.up x), keep_new e2⟩
end
end Ev

/-! Ev11: in, not in; int( ). -/
namespace Ev
open PySem PySem.Spec PyProof.Rows L2
def toV : D → V
  | .bl b => .bl b
  | .int i => .int i
  | .str x => .str x
  | _ => .non
def flatD : D → Bool
  | .non => true
  | .bl _ => true
  | .int _ => true
  | .str _ => true
  | _ => false
theorem flat_of {W : Wd} {F : Fb} {H : Hp} {d : D} {v : V} (h : Rep W F H d v) (f : flatD d = true) : v = toV d ∧ flatV v = true := by
  cases d with
  | non => cases (show v = .non from h); exact ⟨rfl, rfl⟩
  | bl b => cases (show v = .bl b from h); exact ⟨rfl, rfl⟩
  | int b => cases (show v = .int b from h); exact ⟨rfl, rfl⟩
  | str b => cases (show v = .str b from h); exact ⟨rfl, rfl⟩
  | _ => cases f
theorem flats_of {W : Wd} {F : Fb} {H : Hp} : ∀ {ds : List D} {vs : List V}, RepL W F H ds vs → ds.all flatD = true → vs = ds.map toV ∧ vs.all flatV = true
  | [], vs, h, _ => by cases (show vs = [] from h); exact ⟨rfl, rfl⟩
  | d :: ds, vs, h, f => by
    obtain ⟨v, r, rfl, h1, h2⟩ := h
    rw [List.all_cons, Bool.and_eq_true] at f
    obtain ⟨e1, f1⟩ := flat_of h1 f.1
    obtain ⟨e2, f2⟩ := flats_of h2 f.2
    exact ⟨by rw [List.map_cons, e1, e2], by rw [List.all_cons, f1, f2]; rfl⟩
/-- x in the items ds, all of it flat -/
def inD (neg : Bool) : D → D → List Cell → Option D := fun x y _ => match y with
  | .lst ds => if flatD x = true ∧ ds.all flatD = true then some (.bl (if neg then !inV (toV x) (ds.map toV) else inV (toV x) (ds.map toV))) else none
  | .tup ds => if flatD x = true ∧ ds.all flatD = true then some (.bl (if neg then !inV (toV x) (ds.map toV) else inV (toV x) (ds.map toV))) else none
  | _ => none
section
variable {W : Wd} {E : XK} {X : Cx} {a b : Expr} {ma mb : M D} {pos : Pos}
theorem rf_in {neg : Bool} : RF W (inD neg) (rIn W.K neg) := by
  intro F H g x y d v u Q c rx ry e k
  cases y <;> try (cases e; done)
  · rename_i ds
    have e : (if flatD x = true ∧ ds.all flatD = true then some (D.bl (if neg then !inV (toV x) (ds.map toV) else inV (toV x) (ds.map toV))) else none) = some d := e
    split at e
    · rename_i hc
      cases e
      obtain ⟨p, vs, e1, t, r⟩ := ry
      have rx' : Rep W F H x v := by cases x <;> first | exact rx | cases hc.1
      obtain ⟨e2, f2⟩ := flat_of rx' hc.1
      obtain ⟨e3, f3⟩ := flats_of r hc.2
      refine ⟨p, vs, e1, .inr t.seq, f2, f3, ?_⟩
      rw [e2, e3]
      exact k H _ (fun _ _ h => h) c (rep_bl _)
    · cases e
  · rename_i ds
    have e : (if flatD x = true ∧ ds.all flatD = true then some (D.bl (if neg then !inV (toV x) (ds.map toV) else inV (toV x) (ds.map toV))) else none) = some d := e
    split at e
    · rename_i hc
      cases e
      obtain ⟨p, vs, e1, t, _, r⟩ := ry
      have rx' : Rep W F H x v := by cases x <;> first | exact rx | cases hc.1
      obtain ⟨e2, f2⟩ := flat_of rx' hc.1
      obtain ⟨e3, f3⟩ := flats_of r hc.2
      refine ⟨p, vs, e1, .inl (.of t), f2, f3, ?_⟩
      rw [e2, e3]
      exact k H _ (fun _ _ h => h) c (rep_bl _)
    · cases e
theorem ev_in (hK : X.K = W.K) (ha : PE X a (tS W E ma)) (hb : PE X b (tS W E mb)) (hm : behindInMarks .In b = false := by rfl) : PE X (.Compare a [.In] [b] pos) (tM W E (opM (inD false) ma mb)) :=
  weakE (pe_cmpR (by rw [← hK]; exact op_in_seq) ha hb hm) fun _ _ _ h => r_op rf_in h
theorem ev_inT (hK : X.K = W.K) (ha : PE X a (tS W E ma)) (hb : PE X b (tS W E mb)) (hm : behindInMarks .In b = false := by rfl) : PT X (.Compare a [.In] [b] pos) (tB W E (boolM (opM (inD false) ma mb))) :=
  weakT (pt_cmpR (by rw [← hK]; exact op_in_seq) ha hb hm) fun σ H Q hh => r_op rf_in (r_bool (fun _ _ _ => True) hh)
theorem ev_nin (hK : X.K = W.K) (ha : PE X a (tS W E ma)) (hb : PE X b (tS W E mb)) (hm : behindInMarks .NotIn b = false := by rfl) : PE X (.Compare a [.NotIn] [b] pos) (tM W E (opM (inD true) ma mb)) :=
  weakE (pe_cmpR (by rw [← hK]; exact op_notIn_seq) ha hb hm) fun _ _ _ h => r_op rf_in h
theorem ev_ninT (hK : X.K = W.K) (ha : PE X a (tS W E ma)) (hb : PE X b (tS W E mb)) (hm : behindInMarks .NotIn b = false := by rfl) : PT X (.Compare a [.NotIn] [b] pos) (tB W E (boolM (opM (inD true) ma mb))) :=
  weakT (pt_cmpR (by rw [← hK]; exact op_notIn_seq) ha hb hm) fun σ H Q hh => r_op rf_in (r_bool (fun _ _ _ => True) hh)
/-- int(x) of an int, a bool -/
def intF : List D → List Cell → Option D := fun ds _ => match ds with
  | [.int i] => some (.int i)
  | [.bl b] => some (.int (if b then 1 else 0))
  | _ => none
theorem t_int : TyOk W X "int" intF := by
  refine ⟨_, call_int1, ?_⟩
  intro F H g ds d vs Q c rr e k
  cases ds with
  | nil => cases e
  | cons y ys =>
    cases ys with
    | cons _ _ => cases y <;> cases e
    | nil =>
      obtain ⟨v, rfl, rv⟩ := look1 rr
      cases y <;> try (cases e; done)
      · cases e
        exact .inr ⟨_, by rw [show v = _ from rv], k H _ (fun _ _ h => h) c (rep_int _)⟩
      · cases e
        exact .inl ⟨_, by rw [show v = _ from rv], k H _ (fun _ _ h => h) c (rep_int _)⟩
end
end Ev

/-! Ev12: *xs, y = a tuple. -/
namespace PySem.W
open PySem PySem.Spec PySem.Calls PyProof.Rows
theorem ev_star0 {prog : Program} {w : World} {A : Around} {E : Value → Shared → Prop} {s : Shared} {tp : Addr} {xs : Array Value} {n : Nat} {Q : List Value → Shared → Prop} (ht : IsTup s.heap tp xs) (hq : A.handled = none) (n0 : 0 < n) (n1 : n ≤ xs.size + 1) (hz : xs.size ≤ sizeLine)
    (h : ∀ (h2 : Heap) (tk : Nat), (∀ b o, s.heap.get? b = some o → h2.get? b = some o) → Q (.ref h2.objs.size :: xs.toList.drop (xs.size + 1 - n)) { s with heap := h2.push { cls := .type "list", data := .seq (xs.toList.take (xs.size + 1 - n)).toArray }, toks := tk }) :
    wpAny (model prog w) A (unpackItems (.ref tp) n (some 0)) Q E s := by
  have a1 : tp ≠ s.heap.objs.size := by obtain ⟨o, ho, _⟩ := ht; exact Nat.ne_of_lt (Heap.lt_size ho)
  unfold unpackItems
  refine wpAny_bind ?_
  unfold notIterableAtAll
  refine wpAny_bind (wpAny_specialOf ht.typeIs slot_tuple_iter.lookup (wpAny_pure ?_))
  simp only [Bool.false_eq_true, if_false]
  refine wpAny_bind (wpAny_holding (iter_tuple ht (wpAny_bind (wpAny_holding (draw_tuple a1 0 0 _ _ ⟨_, Heap.get?_push_size _ rfl, rfl, rfl⟩ (ht.push _) (by omega) fun h1 t1 s1 => ?_)))))
  have ht1 : IsTup h1 tp xs := (ht.push _).extBut s1.extBut a1
  have t1' := t1
  obtain ⟨oi, hoi, _⟩ := t1'
  have ht1' := ht1
  obtain ⟨ol, hol, _⟩ := ht1'
  simp only [List.drop_zero, List.take_zero, List.length_nil, Nat.lt_irrefl, if_false]
  refine wpAny_bind (wpAny_holding (kun_collect (s := { s with heap := h1 }) (T := "tuple_iterator") (.inr (.inr (.inr rfl))) (Walks.tuple (A := A.in1) hq s.heap.objs.size tp a1 xs) (fun j u st => st.1.typeIs) (k := 0) (by omega) ⟨t1, ht1⟩ (Heap.lt_size hoi) (Heap.lt_size hol) (fun h2 tk hk => ?_) hz))
  have e1 : (xs.toList.drop 0).length = xs.size := by simp
  show wpAny _ _ (if (xs.toList.drop 0).length < n - 1 - 0 then _ else _) _ _ _
  rw [if_neg (by rw [e1]; omega)]
  show wpAny _ _ (newList ((xs.toList.drop 0).take ((xs.toList.drop 0).length - (n - 1 - 0))) >>= fun d => pure (xs.toList.take 0 ++ [d] ++ (xs.toList.drop 0).drop ((xs.toList.drop 0).length - (n - 1 - 0)))) _ _ _
  rw [show (xs.toList.drop 0).length - (n - 1 - 0) = xs.size + 1 - n by rw [e1]; omega, List.drop_zero]
  refine wpAny_bind (wpAny_newList (wpAny_pure ?_) (by rw [List.length_take]; simp; omega))
  have k2 : ∀ b o, s.heap.get? b = some o → h2.get? b = some o := fun b o e => by
    have hb : b ≠ s.heap.objs.size := Nat.ne_of_lt (Heap.lt_size e)
    exact hk b o hb (s1.extBut b o hb (Heap.get?_push_of_some _ e))
  exact h h2 tk k2
end PySem.W
namespace Ev
open PySem PySem.Spec PyProof.Rows L2
/-- *xs, y .. = a tuple: the first take a new list -/
def gStar (K : PySem.W.Frag) (n : Nat) (t : TGs) : TG := fun v σ H Q => ∃ a xs, v = .ref a ∧ SqT K H a xs ∧ n ≤ xs.length + 1 ∧ ∀ p, H p = none → t (.ref p :: xs.drop (xs.length + 1 - n)) σ (upd H p (.lst (xs.take (xs.length + 1 - n)))) Q
section
variable {X : Cx} {pos p1 : Pos}
theorem vals_drop : ∀ (n : Nat) {vs : List V} {us : List Value}, Vals vs us → Vals (vs.drop n) (us.drop n)
  | 0, _, _, h => h
  | n + 1, _, _, .nil => .nil
  | n + 1, _, _, .cons _ h => vals_drop n h
theorem vals_take : ∀ (n : Nat) {vs : List V} {us : List Value}, Vals vs us → Vals (vs.take n) (us.take n)
  | 0, _, _, h => .nil
  | n + 1, _, _, .nil => .nil
  | n + 1, _, _, .cons r h => .cons r (vals_take n h)
theorem pgs_star {x : Expr} {es : List Expr} {t : TG} {u : TGs} (h1 : PG X x t) (h2 : PGs X es u)
    (hs : (assignEach (.Starred x p1 :: es) X.env).map (·.2) = assign x X.env :: (assignEach es X.env).map (·.2) := by rfl) : PGs X (.Starred x p1 :: es) (gCons t u) := by
  refine ⟨fun pins s σ H vs us Q I r h => ?_⟩
  obtain ⟨v, vr, e1, h⟩ := h
  subst e1
  cases r with
  | cons r rr =>
    rw [hs]
    refine assignInOrder_cons (thn (h1.run pins s σ H _ _ _ I r h) fun _ s1 ⟨σ1, H1, I1, q1⟩ => ?_)
    exact h2.run pins s1 σ1 H1 _ _ Q I1 rr q1
theorem pg_star {es : List Expr} {k : Nat} {t : TGs} {n : Nat} (hc : X.calm = true) (h : PGs X es t) (n0 : 0 < n)
    (hn : (assignEach es X.env).length = n := by rfl) (hst : (assignEach es X.env).findIdx? (·.1) = some 0 := by rfl) : PG X (.Tuple es k pos) (gStar X.K n t) := by
  refine ⟨fun pins s σ H v u Q I r hw => ?_⟩
  obtain ⟨a, xs, e1, hq, hl, hw⟩ := hw
  subst e1
  cases r
  obtain ⟨its, rv, ht, hz⟩ := I.tuple hq
  have hlen := rv.length
  rw [assign_Tuple]
  refine wpAny_bind (wpAny_standAt ?_)
  unfold unpack
  rw [hn, hst]
  refine wpAny_bind (wpAny_holding (PySem.W.ev_star0 ht (I.ok.hd hc) n0 (by simp only [List.size_toArray]; omega) (by simp only [List.size_toArray]; omega) fun h2 tk k2 => ?_))
  have I2 : Inv X pins σ H { s with heap := h2, toks := tk } := I.kept k2
  have e2 : its.toArray.size + 1 - n = xs.length + 1 - n := by simp only [List.size_toArray]; omega
  rw [e2]
  have new : ObjOk X.prog X.w (upd H h2.objs.size (.lst (xs.take (xs.length + 1 - n)))) (h2.push ({ cls := .type "list", data := .seq (its.take (xs.length + 1 - n)).toArray } : Obj)) h2.objs.size (.lst (xs.take (xs.length + 1 - n))) :=
    ⟨by rw [List.length_take]; omega, _, _, vals_take _ rv, Heap.get?_push_size _ rfl⟩
  have I3 := I2.laid (t' := tk) (fun b o e => Heap.get?_push_of_some _ e) (Nat.le_refl _) new
  exact h.run pins _ σ _ _ _ Q I3 (.cons (show L2.RelV (V.ref h2.objs.size) (Value.ref h2.objs.size) from rfl) (vals_drop _ rv)) (hw _ (I2.hok.fresh (Nat.le_refl _)))
/-- the first value of several takes the list -/
def tgStar (n : Nat) (fs : List D → Env → Option Env) : D → Env → Option Env := fun d e => match d with
  | .tup ds => if n ≤ ds.length + 1 then fs (.lst (ds.take (ds.length + 1 - n)) :: ds.drop (ds.length + 1 - n)) e else none
  | _ => none
end
section
variable {W : Wd} {E : XK} {X : Cx} {a : Expr} {es : List Expr} {ma : M D} {fs : List D → Env → Option Env} {v1 : List Nat} {pos tpos p1 : Pos} {f : D → Env → Option Env} {v2 : List Nat}
theorem egs_star {x : Expr} (h1 : PG X x (tG W f v1)) (h2 : PGs X es (tGs W fs v2)) (hs : (assignEach (.Starred x p1 :: es) X.env).map (·.2) = assign x X.env :: (assignEach es X.env).map (·.2) := by rfl) : PGs X (.Starred x p1 :: es) (tGs W (tgs1 f fs) (v1 ++ v2)) :=
  ⟨fun pins s σ H vs us Q I r ⟨F, e, g, ds, e', S, rd, he, k⟩ => (pgs_star h1 h2 hs).run pins s σ H vs us Q I r (by
    cases ds with
    | nil => cases he
    | cons d ds =>
      obtain ⟨v, vr, rfl, rv, rr⟩ := rd
      simp only [tgs1] at he
      cases q : f d e with
      | none => rw [q] at he; cases he
      | some e1 =>
        rw [q] at he
        refine ⟨v, vr, rfl, F, e, g, d, e1, S, rv, q, fun σ1 S1 w1 => ?_⟩
        exact ⟨F, e1, g, ds, e', S1, rr, he, fun σ2 S2 w2 => k σ2 S2 fun ws hw => (w2 ws fun i hi => hw i (List.mem_append_right _ hi)).trans (w1 ws fun i hi => hw i (List.mem_append_left _ hi))⟩)⟩
theorem es_star {n kk : Nat} (hK : X.K = W.K) (hc : X.calm = true) (n0 : 0 < n) (ha : PE X a (tM W E ma)) (h : PGs X es (tGs W fs v1)) (hn : (assignEach es X.env).length = n := by rfl) (hst : (assignEach es X.env).findIdx? (·.1) = some 0 := by rfl)
    (hs : swapsWithSole [.Tuple es kk tpos] a pos.line X.env = pure false := by rfl) (hw : swappedStores [.Tuple es kk tpos] a X.env = pure none := by rfl) (h1 : (assignEach [.Tuple es kk tpos] X.env).map (·.2) = [assign (.Tuple es kk tpos) X.env] := by rfl) :
    PS X (.Assign [.Tuple es kk tpos] a pos) (tMS W E (asgS ma (tgStar n fs))) := weakS (ps_asg ha (pg_star hc h n0 hn hst) hs hw h1) fun D0 σ H hh => by
  obtain ⟨F, e, g, S, p⟩ := hh
  refine ⟨F, e, g, S, p.toS.mono fun d g1 F1 H1 x c k v r => ?_⟩
  cases d <;> try exact k.elim
  rename_i ds
  obtain ⟨q, us, rfl, t, rr⟩ := r
  have hlen := rr.length
  simp only [tgStar] at k
  by_cases hl : n ≤ ds.length + 1
  · rw [if_pos hl] at k
    refine ⟨q, us, rfl, by rw [hK]; exact t.seq, by omega, fun b hb => ?_⟩
    rw [← hlen]
    cases hf : fs (.lst (ds.take (ds.length + 1 - n)) :: ds.drop (ds.length + 1 - n)) e with
    | none => rw [hf] at k; exact k.elim
    | some e1 =>
      rw [hf] at k
      exact ⟨F1, e, g1, (.lst (ds.take (ds.length + 1 - n)) :: ds.drop (ds.length + 1 - n)), e1, (S.step x c).step (Xe.new hb) (c.new hb), ⟨_, _, rfl, lst_new c hb (rr.take _), (rr.drop _).up (Xe.new hb).up⟩, hf, fun σ' S' _ => k F1 σ' _ (Xe.new hb).xs S'⟩
  · rw [if_neg hl] at k
    exact k.elim
end
end Ev

/-! Ev13: defs with defaults by their body; boot facts; methods' records for the generated texts. -/
namespace Ev
open PySem PySem.Spec PyProof.Rows L2
theorem bt_int : bootBuiltins "int" = some (.type "int") := by decide +kernel
theorem bt_bool : bootBuiltins "bool" = some (.type "bool") := by decide +kernel
theorem bt_str : bootBuiltins "str" = some (.type "str") := by decide +kernel
theorem bt_isinstance : bootBuiltins "isinstance" = some (.builtin "isinstance") := by decide +kernel
/-- a def with defaults, by its body -/
theorem fn_evD {P : Program} {w : World} {mg : Str → Option Value} {base : Heap} {W : Wd} {k n m : Nat} {x qual : Str} {st : Stmt} {f : Addr} {fd : FuncData} {N ps : List Str} {body : MS} {dvs : List V} {kws : List (Str × V)} (F : FunD W.K x qual (defArgs st) (defBody st) (defScope st) dvs kws f fd) (S : FnScope N ps (defScope st)) (hn : ps.length = n) (hm : N.length = m)
    (h : ∀ (cdv : Value) (A : Around) (out : List PySem.Env) (s : Shared) (H : Hp) (E : XK), (A.deeper (envOfC qual (defScope st) s.heap.objs.size f cdv)).guards = some [] → Room k (A.deeper (envOfC qual (defScope st) s.heap.objs.size f cdv)) →
      PSs (cxOf CX0 P w W.K mg base N qual (defScope st) f cdv A out s H E).nox (defBody st) (tMS W E body)) : FnG P w W.K mg base CX0 (k + 1) f fd ps (spEv W n (fnM n m body)) := by
  subst hn hm
  obtain ⟨oc, od, dV, kV, doc, pm, an, cdv, ct, osl, rfl, lk, hcd, _, _⟩ := F.ex
  refine fnG_of lk hcd S (fun vs H Q E q => spEv_len q) fun A out s H vs Q E hg hr hsp => ⟨_, (h cdv A out s H E hg hr).nox, ?_⟩
  obtain ⟨nu, th, ds, g, c, r, hl, p⟩ := hsp
  have S0 := st_start (N := N) c r
  rw [hl] at S0
  unfold fnM at p
  rw [if_pos hl] at p
  exact ⟨_, _, g, S0, fn_post p⟩
/-- a def of the module with one default None -/
structure DfD (K : PySem.W.Frag) (mg : Str → Option Value) (x : Str) (st : Stmt) (ps : List Str) where
  f : Addr
  fd : FuncData
  fn : FunD K x x (defArgs st) (defBody st) (defScope st) [V.non] [] f fd
  gl : mg x = some (.ref f)
  bd : ∃ ds, Vals [] ds ∧ Binds K fd ps ds
  bd1 : ∃ ds, Vals [V.non] ds ∧ Binds K fd ps ds
/-- a method's def -/
structure Dm (K : PySem.W.Frag) (x qual : Str) (st : Stmt) where
  f : Addr
  fd : FuncData
  fn : Fun K x qual st f fd
/-- all of a class's records that are read -/
structure ClsRec (K : PySem.W.Frag) (C : Addr) : Prop where
  cls : Cls K C
  cr : ClX.CRead K C (.type "type")
theorem FnP.ofD {P : Program} {w : World} {K : PySem.W.Frag} {mg : Str → Option Value} {base : Heap} {CX : CXT} {k : Nat} {f : Addr} {fd : FuncData} {ps : List Str} {sp : Sp} (G : FnG P w K mg base CX k f fd ps sp) (bd : ∃ ds, Vals [] ds ∧ Binds K fd ps ds) : FnP P w K mg base CX k f sp := by
  obtain ⟨ds, hd, hb⟩ := bd
  cases hd
  exact G.pos0 hb
theorem prp_of {P : Program} {w : World} {W : Wd} {mg : Str → Option Value} {base : Heap} {x qual fld : Str} {st : Stmt} {g C : Addr} {fd : FuncData} {N : List Str} {p1 p2 p3 : Pos} (F : Fun W.K x qual st g fd) (S : FnScope N ["self"] (defScope st)) (hN : N[0]? = some ("self" : Str))
    (hb : defBody st = [.Return (some (.Attribute (.Name "self" p1) fld p2)) p3]) (c : Cls W.K C) (n : NoAttr W.K C fld) : FnOk P w W.K mg base CX0 1 g fd ["self"] (getSp C fld) := by
  obtain ⟨oc, od, kV, doc, pm, an, cdv, ct, osl, rfl, lk, hcd⟩ := F.ex
  exact fn_getter lk hcd S hN hb c n
end Ev

/-! Ev14: written products. -/
namespace Ev
open PySem PySem.Spec PyProof.Rows L2
section
variable {W : Wd} {E : XK} {X : Cx} {a b : Expr} {pos : Pos} {ma mb : M D}
def mulW : D → D → List Cell → Option D := onI (fun i j => decide (i.natAbs.log2 + j.natAbs.log2 < 1000000)) fun i j => .int (i * j)
theorem ev_mulW (ha : PE X a (tS W E ma)) (hb : PE X b (tS W E mb)) : PE X (.BinOp a .Mult b pos) (tM W E (opM mulW ma mb)) :=
  ev_op op_mulW (rf_int (fun i j h => (of_decide_eq_true h : _)) fun _ _ _ _ => rep_int _) ha hb
end
end Ev

/-! Ev15: operators and comparisons of two own classes, one standing below the other. -/
namespace PySem.W
open PySem PySem.Calls PyProof.Rows Builtin
section
variable {prog : Program} {w : World} {A : Around} {E : Value → Shared → Prop} {s : Shared} {K : Frag} {C D : Addr} {name : Str}

theorem raiseStr_attr {α : Type} {msg : Str} {Q : α → Shared → Prop} (hh : A.handled = none) (hm : msg.length ≤ sizeLine)
    (h : ∀ h' tk e, Heap.NewExcOf s.heap h' e "AttributeError" → E (.ref e) { s with heap := h', toks := tk }) :
    wpAny (model prog w) A (raiseErrorStr "AttributeError" msg : Sem α) Q E s := by
  unfold raiseErrorStr
  refine wpAny_bind (wpAny_mkStr (wpAny_bind ?_) hm)
  unfold newExc newTuple
  refine wpAny_bind (wpAny_newObj_type ?_ (by size_fits))
  refine wpAny_bind (m := firstArgMember _ _) (wpAny_of_eq (a := Value.none) (by simp only [firstArgMember, attrError_no_first]; rfl) ?_)
  rw [ownMembersOf_AttributeError]
  refine wpAny_newObj_type ?_ (by size_fits)
  unfold raiseNew
  refine wpAny_bind (wpAny_handled ?_)
  rw [hh]
  first
    | refine wpAny_throw ?_
    | refine wpAny_bind (wpAny_pure (wpAny_throw ?_))
  exact h _ _ _ ⟨fun b o hb => Heap.get?_push_of_some _ (Heap.get?_push_of_some _ hb), Heap.get?_none_of_le (by simp), _, _, Heap.get?_push_size _ rfl, rfl, rfl, by simp⟩

/-- the class at D is read by type.__getattribute__, and has no such name -/
def missIn (K : Frag) (D : Addr) (name : Str) : Bool := readsIn K D (.type "type") && (findIn K (.ref D) name == some none && (findIn K (.type "type") name == some none && (findIn K (.type "type") "__getattr__" == some none &&
  (clsIn K D).any fun cd => decide (cd.name.cps.foldl (fun k c => k + (Str.utf8Of c).length) 0 ≤ 100) && decide (((s!"type object '{cd.name.toString}' has no attribute '" : Str) ++ name ++ ("'" : Str)).length ≤ 1000))))
theorem missCls {tk : Tok} {Q : Option Value → Shared → Prop} (X : K.In s.heap) (hm : missIn K D name = true) (hh : A.handled = none)
    (h : ∀ h' t', (∀ b o, s.heap.get? b = some o → h'.get? b = some o) → Q none { s with heap := h', toks := t' }) : wpAny (model prog w) A (getAttrBy? (.ref D) (.str name tk)) Q E s := by
  unfold missIn readsIn at hm
  simp only [Bool.and_eq_true, beq_iff_eq] at hm
  obtain ⟨⟨⟨⟨⟨r1, r2⟩, r3⟩, r4⟩, r5⟩, m1, m2, m3, m4⟩ := hm
  obtain ⟨cd, hcd, hsz⟩ := any_some m4
  simp only [Bool.and_eq_true, decide_eq_true_eq] at hsz
  obtain ⟨hs1, hs2⟩ := hsz
  obtain ⟨hp, g, d, t, os⟩ := s
  have L0 := looks_typeIn (M := model prog w) X r2
  have L1 := looks_findIn (M := model prog w) X r3
  have L2 := looks_opaque (M := model prog w) (C := D) X r1
  have L3 := looks_findIn (M := model prog w) X m2
  have L4 := looks_findIn (M := model prog w) X m1
  have L5 := looks_clsIn (M := model prog w) X hcd
  have L6 := looks_findIn (M := model prog w) X m3
  have f1 := sub_AttributeError
  have hx2 : (Value.builtin "type.__getattribute__" == Value.builtin "object.__getattribute__") = false := by decide +kernel
  have hx1 : (onTheHeap (Value.type "type") && Value.builtin "type.__getattribute__" == Value.builtin "object.__getattribute__") = false := by rw [hx2]; exact Bool.and_false _
  have hx0 : (false && onTheHeap (Value.builtin "type.__getattribute__")) = false := rfl
  unfold getAttrBy? getAttrBy
  refine wpAny_bind (wpAny_attempt (wpAny_holding (wpAny_bind (L0.at (wpAny_bind (L1.at ?_))))))
  show wpAny _ _ (if (onTheHeap (Value.type "type") && Value.builtin "type.__getattribute__" == Value.builtin "object.__getattribute__") = true then _ else _) _ _ _
  rw [hx1, if_neg Bool.false_ne_true]
  unfold getAttrByItsOwn hookBefore
  refine wpAny_bind ?_
  rw [if_neg (by decide : ¬ onTheHeap (Value.type "type") = true)]
  refine wpAny_pure ?_
  refine wpAny_bind (wpAny_attempt (wpAny_holding ?_))
  unfold callGetattribute
  rw [hx0, if_neg Bool.false_ne_true]
  unfold boundAndCalled
  rw [KF.slot_tga.bind]
  refine wpAny_bind (wpAny_pure ?_)
  show wpAny _ _ (call (.builtin "type.__getattribute__") [.ref D, .str name tk]) _ _ _
  refine wpAny_call (codeAny_call_builtin KF.slot_tga.plain KF.entry_tga ?_)
  refine @check_slot (model prog w) _ _ ⟨hp, g, d, t, os⟩ "type.__getattribute__" "type" "__getattribute__" (.ref D) [.str name tk] [] _ (by decide +kernel) (by decide +kernel) (L0.andThen (looks_subIn X r5)) (KF.args_tga (.ref D) (.str name tk)) ?_
  unfold Builtin.«type.__getattribute__»
  refine wpAny_bind (wpAny_pure ?_)
  refine wpAny_bind (L2.at ?_)
  refine wpAny_bind (L0.at ?_)
  refine wpAny_bind (L3.at ?_)
  refine wpAny_bind (wpAny_pure ?_)
  refine wpAny_bind (L4.at ?_)
  refine wpAny_bind (wpAny_rule ?_)
  unfold typeNameCut
  refine wpAny_bind (wpAny_bind (L5.at ?_))
  simp only [hs1, if_true]
  refine wpAny_pure ?_
  refine raiseStr_attr (s := ⟨hp, g, d, t, os⟩) hh ?_ fun h' tk' e ne => ?_
  · exact Nat.le_trans hs2 (by rw [sizeLine_eq]; decide)
  · obtain ⟨ob, vs, he, hcls, _, _⟩ := ne.there
    have hk : ∀ b o, hp.get? b = some o → h'.get? b = some o := ne.keeps
    have X' : K.In h' := X.keeps hk
    have L6' := looks_findIn (M := model prog w) X' m3
    have LT : Looks (model prog w) h' (typeOf (.ref e)) (.type "AttributeError") := by
      have := (Looks.ld (M := model prog w) (part := some headPart) he).andThen (f := fun o => pure o.cls) .now
      rw [hcls] at this
      exact this
    have LI : Looks (model prog w) h' (isInstance (.ref e) (.type "AttributeError")) true := LT.andThen (Looks.of_pure f1)
    show wpAny _ _ (getattributeRaised _ _ _ _ _ _ _) _ _ _
    unfold getattributeRaised
    refine wpAny_bind (LI.at ?_)
    rw [if_pos rfl]
    unfold hookBehind
    refine wpAny_bind ?_
    rw [if_neg (by decide : ¬ onTheHeap (Value.type "type") = true)]
    refine L6'.at ?_
    unfold hookOrError attributeErrorLeaves
    simp only [Bool.not_false, if_true]
    refine wpAny_throw ?_
    refine wpAny_bind (LI.at ?_)
    rw [if_pos rfl]
    exact wpAny_pure (h h' tk' hk)
end
section
variable {prog : Program} {w : World} {A : Around} {E : Value → Shared → Prop} {s : Shared} {K : Frag} {x y C D f f' L : Addr} {h₀ : Heap} {m : Str → Option Value} {ox oy : Obj} {od od' : Option Obj} {nm : String}
theorem refl_same {Q : Bool → Shared → Prop} (X : K.In s.heap) (hsC : findIn K (.ref C) (PySem.dunder nm) = some (some (.ref f))) (hrC : findIn K (.ref C) (dunderR nm) = some none)
    (hsD : findIn K (.ref D) (PySem.dunder nm) = some (some (.ref f'))) (hrD : findIn K (.ref D) (dunderR nm) = some none) (hm : missIn K D (dunderR nm) = true) (hz : (dunderR nm).length ≤ sizeLine) (hh : A.handled = none)
    (h : ∀ h' t', (∀ b o, s.heap.get? b = some o → h'.get? b = some o) → Q false { s with heap := h', toks := t' }) : wpAny (model prog w) A (reflectedDiffers (.ref C) (.ref D) nm) Q E s := by
  obtain ⟨hp, g, d, t, os⟩ := s
  have L1 := ksp_inPy (M := model prog w) X hsC hrC (.inl rfl)
  have L2 := ksp_inPy (M := model prog w) X hsD hrD (.inl rfl)
  unfold reflectedDiffers
  refine wpAny_bind (L1.at ?_)
  simp only [Bool.not_true, Bool.false_eq_true, if_false]
  refine wpAny_bind (L2.at ?_)
  simp only [Bool.not_true, Bool.false_eq_true, if_false]
  exact (wpAny_bind (wpAny_mkStr (wpAny_bind (missCls (s := ⟨hp, g, d, t + 1, os⟩) X hm hh fun h' t' k => wpAny_pure (h h' t' k))) hz))
/-- an operator on two objects of two classes, one standing below the other or not, with no reflected method -/
theorem binop_K2 {op : Operator} {Q : Value → Shared → Prop} {b : Bool} (F : Fr h₀ L s.heap m) (X₀ : K.In h₀) (I : InstAt s.heap x ox C od) (J : InstAt s.heap y oy D od') (hne : C ≠ D) (hc : selfFirst K C = true) (hd : selfFirst K D = true)
    (hs : findIn K (.ref C) (PySem.dunder op.info.2) = some (some (.ref f))) (hrC : findIn K (.ref C) (dunderR op.info.2) = some none) (hf : isFn K (.ref f) = true)
    (hsD : findIn K (.ref D) (PySem.dunder op.info.2) = some (some (.ref f'))) (hrD : findIn K (.ref D) (dunderR op.info.2) = some none) (hsub : subIn K (.ref D) (.ref C) = some b) (hm : b = true → missIn K D (dunderR op.info.2) = true) (hz : (dunderR op.info.2).length ≤ sizeLine) (hA : A.handled = none)
    (h : ∀ h' t', (∀ b o, s.heap.get? b = some o → h'.get? b = some o) → wpAny (model prog w) A (call (.ref f) [.ref x, .ref y]) (CmpBack Q) E { s with heap := h', toks := t' }) : wpAny (model prog w) A (binaryOp op (.ref x) (.ref y)) Q E s := by
  have X := X₀.keeps F.keep
  obtain ⟨cd, rest, hcd, hmr⟩ := ksp_first hc
  obtain ⟨cd', rest', hcd', hmr'⟩ := ksp_first hd
  rcases hi : op.info with ⟨sym, nm'⟩
  rw [hi] at hs hrC hsD hrD hm hz
  dsimp only at hs hrC hsD hrD hm hz
  have tail : ∀ h' t', (∀ b o, s.heap.get? b = some o → h'.get? b = some o) → wpAny (model prog w) A (tryMethod (.ref x) (PySem.dunder nm') (.ref y)) (fun r s' => ∃ v, r = some v ∧ Q v s') E { s with heap := h', toks := t' } := fun h' t' k => by
    refine ksp_try (s := { s with heap := h', toks := t' }) (ox := ox) (od := od) (X.keeps k) ?_ hs hf (h h' t' k)
    obtain ⟨i1, i2, i3, i4⟩ := I
    refine ⟨k _ _ i1, i2, i3, ?_⟩
    revert i4
    cases ox.dict <;> cases od <;> first | exact fun z => z | exact fun z => k _ _ z
  obtain ⟨hh, g, d, tt, os⟩ := s
  have L1 : Looks (model prog w) hh (typeOf (.ref x)) (.ref C) := I.type
  have L2 : Looks (model prog w) hh (typeOf (.ref y)) (.ref D) := J.type
  have L3 : Looks (model prog w) hh (fillsNumberSlot (.ref C) nm') true := fills_K X hcd hmr hs
  have L4 : Looks (model prog w) hh (fillsNumberSlot (.ref D) nm') true := fills_K X hcd' hmr' hsD
  have L5 : Looks (model prog w) hh (isSubtype (.ref D) (.ref C)) b := looks_subIn X hsub
  have hne' : (Value.ref C == Value.ref D) = false := Bool.eq_false_iff.mpr fun q => hne (Value.ref.inj (beq_iff_eq.mp q))
  simp only [binaryOp, hi]
  refine wpAny_holding (wpAny_bind ?_)
  unfold binaryOp1
  refine wpAny_bind (L1.at (wpAny_bind (L2.at (wpAny_bind (L3.at ?_)))))
  simp only [hne', Bool.false_eq_true, if_false]
  refine wpAny_bind (L4.at ?_)
  simp only [Bool.and_self, if_true]
  refine wpAny_bind (L5.at ?_)
  cases b with
  | false =>
    simp only [Bool.false_eq_true, if_false]
    obtain ⟨h', hh'⟩ : ∃ h', h' = hh := ⟨_, rfl⟩
    obtain ⟨t', ht'⟩ : ∃ t', t' = tt := ⟨_, rfl⟩
    have k : ∀ b o, hh.get? b = some o → h'.get? b = some o := fun b o e => by rw [hh']; exact e
    show wpAny _ _ _ _ _ ⟨hh, g, d, tt, os⟩
    rw [← hh', ← ht']
    simp only [Bool.not_false, Bool.and_self, if_true]
    refine wpAny_bind ((ksp_inPy (X.keeps k) hs hrC (.inl rfl)).at ?_)
    simp only [if_true]
    refine wpAny_bind ((ksp_inPy (X.keeps k) hsD hrD (.inl rfl)).at ?_)
    simp only [Bool.not_true, Bool.false_eq_true, if_false]
    refine wpAny_bind (wpAny_mono (tail h' t' k) (fun r s' hr' => ?_) fun _ _ e => e)
    obtain ⟨v, rfl, hq⟩ := hr'
    exact wpAny_pure (wpAny_pure hq)
  | true =>
    simp only [if_true]
    refine wpAny_bind (refl_same (s := ⟨hh, g, d, tt, os⟩) X hs hrC hsD hrD (hm rfl) hz hA fun h' t' k => ?_)
    simp only [Bool.false_eq_true, if_false]
    simp only [Bool.not_false, Bool.and_self, if_true]
    refine wpAny_bind ((ksp_inPy (X.keeps k) hs hrC (.inl rfl)).at ?_)
    simp only [if_true]
    refine wpAny_bind ((ksp_inPy (X.keeps k) hsD hrD (.inl rfl)).at ?_)
    simp only [Bool.not_true, Bool.false_eq_true, if_false]
    refine wpAny_bind (wpAny_mono (tail h' t' k) (fun r s' hr' => ?_) fun _ _ e => e)
    obtain ⟨v, rfl, hq⟩ := hr'
    exact wpAny_pure (wpAny_pure hq)
end

section
variable {prog : Program} {w : World} {A : Around} {E : Value → Shared → Prop} {s : Shared} {K : Frag} {x y C D f L : Addr} {h₀ : Heap} {m : Str → Option Value} {ox oy : Obj} {od od' : Option Obj} {name : Str} {id n : String} {B : Builtin}
theorem ifBound_blt {args : List Value} {Q : Option Value → Shared → Prop} (X : K.In s.heap) (I : InstAt s.heap x ox C od) (hs : findIn K (.ref C) name = some (some (.builtin id))) (hb : ∀ self, bindSpecial (.builtin id) self = pure (.builtin id, [self])) (hk : builtinKind id = some .slot) (hsp : splitId id = some ("object", n))
    (hpl : plainId id = true) (he : entryFor table id = some B) (ha : argsOk id ⟨.ref x :: args, []⟩) (hsub : subIn K (.ref C) (.type "object") = some true)
    (h : wpAny (model prog w) A.in1 (B ⟨.ref x :: args, []⟩) (fun fin s' => ∃ v, fin = .done (.ret v) ∧ Q (some v) s') E s) : wpAny (model prog w) A (callSpecialIfBound? (.ref x) name args) Q E s := by
  have L0 : Looks (model prog w) s.heap (isInstance (.ref x) (.type "object")) true := I.type.andThen (looks_subIn X hsub)
  simp only [callSpecialIfBound?, bindSpecialIfBound?]
  refine wpAny_holding (wpAny_bind (wpAny_bind (wpAny_bind (I.type.here ((looks_findIn X hs).here ?_)))))
  refine wpAny_bind (wpAny_askSetting (wpAny_ite ?_))
  have fin : wpAny (model prog w) A (call (.builtin id) ([.ref x] ++ args) >>= fun v => pure (some v)) Q E s := by
    refine wpAny_bind (wpAny_call (codeAny_call_builtin hpl he ?_))
    refine @check_slot (model prog w) _ _ s id "object" n (.ref x) args [] _ hk hsp L0 ha ?_
    refine wpAny_mono h (fun fin s' z => ?_) fun _ _ z => z
    obtain ⟨v, rfl, hq⟩ := z
    exact wpAny_pure hq
  split
  · refine wpAny_bind ?_
    rw [hb]
    exact wpAny_pure (wpAny_pure (by exact fin))
  · refine wpAny_tryCatch (wpAny_bind ?_)
    rw [hb]
    exact wpAny_pure (wpAny_pure (by exact fin))
theorem try_fn {b : Value} {Q : Option Value → Shared → Prop} (X : K.In s.heap) (I : InstAt s.heap x ox C od) (hs : findIn K (.ref C) name = some (some (.ref f))) (hf : isFn K (.ref f) = true)
    (h : wpAny (model prog w) A (call (.ref f) [.ref x, b]) (CmpBack fun v s' => Q (some v) s') E s) : wpAny (model prog w) A (tryCompare (.ref x) name b) Q E s := by
  unfold tryCompare
  refine wpAny_bind (ifBound_K X I hs hf (wpAny_mono h (fun v s' hv => ?_) fun _ _ e => e))
  cases v <;> first | exact hv.elim | exact wpAny_pure hv
/-- != where the class has an own == alone -/
theorem try_ne {b : Value} {Q : Option Value → Shared → Prop} (hu : A.units + 1 < cLine) (X : K.In s.heap) (I : InstAt s.heap x ox C od) (hs : findIn K (.ref C) "__ne__" = some (some (.builtin "object.__ne__"))) (hsub : subIn K (.ref C) (.type "object") = some true)
    (he : findIn K (.ref C) "__eq__" = some (some (.ref f))) (hf : isFn K (.ref f) = true)
    (h : wpAny (model prog w) A.in1 (call (.ref f) [.ref x, b]) (BoolBack fun r s' => Q (some (.bool (!r))) s') E s) : wpAny (model prog w) A (tryCompare (.ref x) "__ne__" b) Q E s := by
  unfold tryCompare
  refine wpAny_bind (ifBound_blt X I hs PySem.F.slot_object_ne.bind F.cmpKind_ne F.cmpSplit_ne PySem.F.slot_object_ne.plain F.cmpEntry_ne (F.cmpArgs_ne _ _) hsub ?_)
  unfold Builtin.«object.__ne__»
  refine wpAny_bind (wpAny_pure ?_)
  refine wpAny_bind (wpAny_cRoomFor hu ?_)
  refine wpAny_bind (ifBound_K X I he hf (wpAny_mono h (fun v s' hv => ?_) fun _ _ e => e))
  cases v <;> first | exact hv.elim | skip
  refine wpAny_bind (wpAny_pure ?_)
  exact wpAny_pure ⟨_, rfl, wpAny_pure hv⟩
theorem args_ge (a b : Value) : argsOk "object.__ge__" ⟨[a, b], []⟩ := by unfold argsOk; kernel_rfl
theorem try_ge {b : Value} {Q : Option Value → Shared → Prop} (X : K.In s.heap) (I : InstAt s.heap x ox C od) (hs : findIn K (.ref C) "__ge__" = some (some (.builtin "object.__ge__"))) (hsub : subIn K (.ref C) (.type "object") = some true)
    (h : Q none s) : wpAny (model prog w) A (tryCompare (.ref x) "__ge__" b) Q E s := by
  unfold tryCompare
  refine wpAny_bind (ifBound_blt X I hs PySem.F.slot_object_ge.bind (by decide +kernel) (n := "__ge__") (by decide +kernel) PySem.F.slot_object_ge.plain PySem.F.entry_object_ge (args_ge _ _) hsub ?_)
  exact wpAny_bind (wpAny_pure (wpAny_pure ⟨_, rfl, wpAny_pure h⟩))
section
variable {op : CmpOp} {b tb : Value} {Q : Value → Shared → Prop}
theorem rc_left (hu : A.units < cLine) (X : K.In s.heap) (I : InstAt s.heap x ox C od) (hb : Looks (model prog w) s.heap (typeOf b) tb) (hn : notFirst K C tb = true)
    (h : wpAny (model prog w) A (tryCompare (.ref x) (cmpInfo op).2.1 b) (fun r s' => ∃ v, r = some v ∧ Q v s') E s) : wpAny (model prog w) A (richCompare op (.ref x) b) Q E s := by
  unfold richCompare
  simp only [oneThing_ref]
  refine wpAny_holding (wpAny_bind (wpAny_cRoomFor hu ?_))
  refine wpAny_bind (I.type.here (wpAny_bind (hb.here ?_)))
  split
  · rename_i q
    have e : subIn K tb (.ref C) = some false := by
      rcases Bool.or_eq_true_iff.mp hn with e | e
      · rw [beq_iff_eq.mp e] at q; simp at q
      · exact beq_iff_eq.mp e
    refine wpAny_bind ((looks_subIn X e).here ?_)
    simp only [Bool.false_eq_true, if_false]
    refine wpAny_bind (wpAny_mono h (fun r s' z => ?_) fun _ _ e => e)
    obtain ⟨v, rfl, hq⟩ := z
    exact wpAny_pure hq
  · refine wpAny_bind (wpAny_pure ?_)
    simp only [Bool.false_eq_true, if_false]
    refine wpAny_bind (wpAny_mono h (fun r s' z => ?_) fun _ _ e => e)
    obtain ⟨v, rfl, hq⟩ := z
    exact wpAny_pure hq
/-- the right one's class stands below the left one's: it is asked first -/
theorem rc_right (hu : A.units < cLine) (X : K.In s.heap) (I : InstAt s.heap x ox C od) (J : InstAt s.heap y oy D od') (hne : C ≠ D) (hs : subIn K (.ref D) (.ref C) = some true)
    (h : wpAny (model prog w) A (tryCompare (.ref y) (cmpInfo op).2.2 (.ref x)) (fun r s' => match r with | some v => Q v s' | none => wpAny (model prog w) A (tryCompare (.ref x) (cmpInfo op).2.1 (.ref y)) (fun r s' => ∃ v, r = some v ∧ Q v s') E s') E s) : wpAny (model prog w) A (richCompare op (.ref x) (.ref y)) Q E s := by
  have hne' : (Value.ref C != Value.ref D) = true := by
    rw [bne, Bool.not_eq_true']
    exact Bool.eq_false_iff.mpr fun q => hne (Value.ref.inj (beq_iff_eq.mp q))
  unfold richCompare
  simp only [oneThing_ref]
  refine wpAny_holding (wpAny_bind (wpAny_cRoomFor hu ?_))
  refine wpAny_bind (I.type.here (wpAny_bind (J.type.here ?_)))
  rw [if_pos hne']
  refine wpAny_bind ((looks_subIn X hs).here ?_)
  rw [if_pos rfl]
  refine wpAny_bind (wpAny_mono h (fun r s' z => ?_) fun _ _ e => e)
  cases r with
  | some v => exact wpAny_bind (wpAny_rule (wpAny_pure z))
  | none =>
    refine wpAny_bind (wpAny_mono z (fun r s' z => ?_) fun _ _ e => e)
    obtain ⟨v, rfl, hq⟩ := z
    exact wpAny_pure hq
end
end
end PySem.W

/-! Ev16: the operators of the two own classes, as expressions. -/
namespace Ev
open PySem PySem.Spec PyProof.Rows L2
/-- a method that both classes have -/
structure OwnM (W : Wd) (nm : Str) (g : Addr) : Prop where
  at_ : ∀ c, c < 2 → PySem.W.findIn W.K (.ref (W.cl c)) nm = some (some (.ref g))
  fn : PySem.W.isFn W.K (.ref g) = true
  fi : PySem.W.fnIn W.K g = true
/-- the two classes: the second one stands below the first -/
structure OwnC (W : Wd) : Prop where
  self : ∀ c, c < 2 → PySem.W.selfFirst W.K (W.cl c) = true
  s10 : PySem.W.subIn W.K (.ref (W.cl 1)) (.ref (W.cl 0)) = some true
  s01 : PySem.W.subIn W.K (.ref (W.cl 0)) (.ref (W.cl 1)) = some false
theorem OwnC.ne {W : Wd} (C : OwnC W) : W.cl 0 ≠ W.cl 1 := fun e => by
  have h1 := C.s10
  have h2 := C.s01
  rw [e] at h1 h2
  rw [h1] at h2
  cases h2
/-- an operator of two objects -/
structure OwnB (W : Wd) (op : Operator) (g : Addr) : Prop where
  m : OwnM W (PySem.dunder op.info.2) g
  r : ∀ c, c < 2 → PySem.W.findIn W.K (.ref (W.cl c)) (dunderR op.info.2) = some none
  z : PySem.W.missIn W.K (W.cl 1) (dunderR op.info.2) = true
  l : (dunderR op.info.2).length ≤ 1000
/-- .. of an object and an int -/
structure OwnI (W : Wd) (op : Operator) (g : Addr) : Prop where
  m : OwnM W (PySem.dunder op.info.2) g
  r : ∀ c, c < 2 → PySem.W.findIn W.K (.ref (W.cl c)) (dunderR op.info.2) = some none
  i1 : (PySem.W.findIn W.K (.type "int") (PySem.dunder op.info.2)).isSome = true
  i2 : (PySem.W.findIn W.K (.type "int") (dunderR op.info.2)).isSome = true
  si : ∀ c, c < 2 → PySem.W.subIn W.K (.type "int") (.ref (W.cl c)) = some false
structure OwnE (W : Wd) (g : Addr) : Prop where
  m : OwnM W "__eq__" g
  ne : ∀ c, c < 2 → PySem.W.findIn W.K (.ref (W.cl c)) "__ne__" = some (some (.builtin "object.__ne__"))
  ob : ∀ c, c < 2 → PySem.W.subIn W.K (.ref (W.cl c)) (.type "object") = some true
structure OwnL (W : Wd) (g : Addr) : Prop where
  m : OwnM W "__le__" g
  ge : ∀ c, c < 2 → PySem.W.findIn W.K (.ref (W.cl c)) "__ge__" = some (some (.builtin "object.__ge__"))
  ob : ∀ c, c < 2 → PySem.W.subIn W.K (.ref (W.cl c)) (.type "object") = some true
section
variable {W : Wd} {E : XK} {X : Cx} {CX : CXT} {k : Nat} {g : Addr} {sp : Sp} {fs : List D → List Cell → R D}
theorem run_at {A : Around} {pins : List (Addr × Obj)} {σ : L2.St} {H : Hp} {s : Shared} {Q : VK} {us : List Value} {vs : List V} (F : FnP X.prog X.w X.K X.mg X.base CX k g sp) (hg : A.guards = some []) (hr : Room k A) (hf : A.frames = X.A.frames)
    (px : Passes CX X E) (I : Inv X pins σ H s) (r : Vals vs us) (h : sp vs H Q E) : wpAny (model X.prog X.w) A (call (.ref g) us) (EP X pins σ Q) X.xe s := by
  have e0 : Env0 X.prog X.w X.K X.mg X.base A X.stack s H := by
    have e := I.env0
    exact ⟨by rw [hf]; exact e.frames, e.mod, e.bs, e.bsz, e.funs, e.frf, e.hok, e.bare⟩
  refine wpAny_call (codeAny_mono (F A X.stack s H us vs Q E hg hr e0 r h) fun res s' z => ?_)
  rcases res with er | (u | _ | _ | _)
  · exact px pins σ H s er s' I z
  all_goals first
    | exact I.after z
    | exact z.elim
theorem ep_back {pins : List (Addr × Obj)} {σ : L2.St} {Q : VK} {u : Value} {s : Shared} (h : EP X pins σ Q u s) : PySem.W.CmpBack (EP X pins σ Q) u s := by
  have h0 := h
  obtain ⟨v, H', I, r, q⟩ := h
  cases u <;> try exact h0
  cases v <;> first | (obtain ⟨t, r⟩ := r; cases r) | cases r
theorem ins_at {pins : List (Addr × Obj)} {σ : L2.St} {H : Hp} {s : Shared} {a C dx : Addr} {us : List (Str × V)} (I : Inv X pins σ H s) (h : H a = some (.ins C dx us)) : ∃ ox od, PySem.W.InstAt s.heap a ox C od ∧ ox.data = .plain := by
  obtain ⟨mA, O, _⟩ := ins_get I.hok h
  obtain ⟨od, J, _⟩ := O.look
  exact ⟨_, _, J, rfl⟩
/-- x is an object of one of the two classes -/
def InsRu (W : Wd) (H : Hp) (x : V) (c : Nat) : Prop := ∃ a dx us, x = .ref a ∧ c < 2 ∧ H a = some (.ins (W.cl c) dx us)
def rRu (W : Wd) (sp : Sp) (E : XK) : R2 := fun x y H Q => ∃ c c', InsRu W H x c ∧ InsRu W H y c' ∧ sp [x, y] H Q E
theorem op_ru {op : Operator} (hK : X.K = W.K) (C : OwnC W) (B : OwnB W op g) (F : FnP X.prog X.w X.K X.mg X.base CX k g sp) (hG : X.A.guards = some []) (hr : Room k X.A) (px : Passes CX X E) : OpR X (binaryOp op) (rRu W sp E) := by
  rintro pins s σ H x y v u Q I rx ry ⟨c, c', ⟨a, dx, us, rfl, hc, ha⟩, ⟨b, dy, ws, rfl, hc', hb⟩, h⟩
  cases rx
  cases ry
  obtain ⟨ox, od, J, _⟩ := ins_at I ha
  obtain ⟨oy, od', J', _⟩ := ins_at I hb
  obtain ⟨m, hF⟩ := I.fr
  have kin := I.ok.mod.kin
  rw [hK] at kin
  have nx := C.ne
  have r2 : Vals [V.ref a, V.ref b] [Value.ref a, Value.ref b] := .cons rfl (.cons rfl .nil)
  by_cases e : c = c'
  · subst e
    exact PySem.W.binop_K hF kin J J'.type (C.self c hc) (B.m.at_ c hc) B.m.fn (wpAny_mono (run_at F hG hr rfl px I r2 h) (fun _ _ z => ep_back z) fun _ _ z => z)
  · have h2 : (c = 0 ∧ c' = 1) ∨ (c = 1 ∧ c' = 0) := by omega
    have hne : W.cl c ≠ W.cl c' := by
      rcases h2 with ⟨rfl, rfl⟩ | ⟨rfl, rfl⟩
      · exact nx
      · exact nx.symm
    have hs : PySem.W.subIn W.K (.ref (W.cl c')) (.ref (W.cl c)) = some (decide (c' = 1)) := by
      rcases h2 with ⟨rfl, rfl⟩ | ⟨rfl, rfl⟩
      · exact C.s10
      · exact C.s01
    refine PySem.W.binop_K2 hF kin J J' hne (C.self c hc) (C.self c' hc') (B.m.at_ c hc) (B.r c hc) B.m.fn (B.m.at_ c' hc') (B.r c' hc') hs (fun e1 => ?_) (Nat.le_trans B.l (by rw [sizeLine_eq]; decide)) hr.hd fun h' t' kk => ?_
    · rw [of_decide_eq_true e1]; exact B.z
    · exact wpAny_mono (run_at F hG hr rfl px (I.kept kk) r2 h) (fun _ _ z => ep_back z) fun _ _ z => z
def rRuI (W : Wd) (sp : Sp) (E : XK) : R2 := fun x y H Q => ∃ c i, InsRu W H x c ∧ y = .int i ∧ sp [x, y] H Q E
theorem op_ruI {op : Operator} (hK : X.K = W.K) (C : OwnC W) (B : OwnI W op g) (F : FnP X.prog X.w X.K X.mg X.base CX k g sp) (hG : X.A.guards = some []) (hr : Room k X.A) (px : Passes CX X E) : OpR X (binaryOp op) (rRuI W sp E) := by
  rintro pins s σ H x y v u Q I rx ry ⟨c, i, ⟨a, dx, us, rfl, hc, ha⟩, rfl, h⟩
  cases rx
  obtain ⟨t, rfl⟩ := ry
  obtain ⟨ox, od, J, _⟩ := ins_at I ha
  obtain ⟨m, hF⟩ := I.fr
  have kin := I.ok.mod.kin
  rw [hK] at kin
  obtain ⟨fo, h1⟩ := Option.isSome_iff_exists.mp B.i1
  obtain ⟨ro, h2⟩ := Option.isSome_iff_exists.mp B.i2
  have r2 : Vals [V.ref a, V.int i] [Value.ref a, Value.int i t] := .cons rfl (.cons ⟨t, rfl⟩ .nil)
  exact PySem.W.ksp_binT hF kin J rfl (C.self c hc) (B.m.at_ c hc) B.m.fn (B.r c hc) (.inl rfl) h1 h2 (B.si c hc) (wpAny_mono (run_at F hG hr rfl px I r2 h) (fun _ _ z => ep_back z) fun _ _ z => z)
/-- ==: the one of the class that stands below is asked first -/
def rRuE (W : Wd) (neg : Bool) (sp : Sp) (E : XK) : R2 := fun x y H Q => ∃ c c', InsRu W H x c ∧ InsRu W H y c' ∧ sp (if c = 0 ∧ c' = 1 then [y, x] else [x, y]) H (fun v H' => ∃ b, v = .bl b ∧ Q (.bl (if neg then !b else b)) H') E
theorem ep_bool {pins : List (Addr × Obj)} {σ : L2.St} {neg : Bool} {Q : VK} {u : Value} {s : Shared} (h : EP X pins σ (fun v H' => ∃ b, v = .bl b ∧ Q (.bl (if neg then !b else b)) H') u s) : ∃ b, u = .bool b ∧ EP X pins σ Q (.bool (if neg then !b else b)) s := by
  obtain ⟨v, H', I, r, b, rfl, q⟩ := h
  exact ⟨b, r, .bl _, H', I, rfl, q⟩
theorem op_ruE (hK : X.K = W.K) (C : OwnC W) (B : OwnE W g) (F : FnP X.prog X.w X.K X.mg X.base CX k g sp) (hG : X.A.guards = some []) (hr : Room (k + 1) X.A) (px : Passes CX X E) : OpR X (compareOp .Eq) (rRuE W false sp E) := by
  rintro pins s σ H x y v u Q I rx ry ⟨c, c', ⟨a, dx, us, rfl, hc, ha⟩, ⟨b, dy, ws, rfl, hc', hb⟩, h⟩
  cases rx
  cases ry
  obtain ⟨ox, od, J, _⟩ := ins_at I ha
  obtain ⟨oy, od', J', _⟩ := ins_at I hb
  have kin := I.kIn
  rw [hK] at kin
  have hu : X.A.units < cLine := by have := hr.un; omega
  have go : ∀ (p q : V) (pu qu : Value) (P : Value → Shared → Prop), RelV p pu → RelV q qu → sp [p, q] H (fun v H' => ∃ b, v = .bl b ∧ Q (.bl (if false then !b else b)) H') E → (∀ b s', EP X pins σ Q (.bool b) s' → P (.bool b) s') → wpAny (model X.prog X.w) X.A (call (.ref g) [pu, qu]) (PySem.W.CmpBack P) X.xe s := fun p q pu qu P r1 r2 h0 hP =>
    wpAny_mono (run_at F hG (hr.mono (Nat.le_succ _)) rfl px I (.cons r1 (.cons r2 .nil)) h0) (fun z s' q => by
      obtain ⟨b, rfl, q2⟩ := ep_bool q
      exact hP b s' q2) fun _ _ z => z
  show wpAny _ _ (richCompare .Eq _ _) _ _ _
  by_cases e : c = 0 ∧ c' = 1
  · obtain ⟨rfl, rfl⟩ := e
    rw [if_pos ⟨rfl, rfl⟩] at h
    exact PySem.W.rc_right hu kin J J' C.ne C.s10 (PySem.W.try_fn (Q := fun r s' => match r with | some v => EP X pins σ Q v s' | none => _) kin J' (B.m.at_ 1 (by decide)) B.m.fn (go (.ref b) (.ref a) _ _ _ rfl rfl h fun b s' q => q))
  · rw [if_neg e] at h
    have hn : PySem.W.notFirst W.K (W.cl c) (.ref (W.cl c')) = true := by
      unfold PySem.W.notFirst
      match c, c', hc, hc', e with
      | 0, 0, _, _, _ => simp
      | 1, 1, _, _, _ => simp
      | 1, 0, _, _, _ => rw [C.s01]; simp
      | 0, 1, _, _, e => exact absurd ⟨rfl, rfl⟩ e
    exact PySem.W.rc_left hu kin J J'.type hn (PySem.W.try_fn kin J (B.m.at_ c hc) B.m.fn (go (.ref a) (.ref b) _ _ _ rfl rfl h fun b s' q => ⟨_, rfl, q⟩))
theorem op_ruN (hK : X.K = W.K) (C : OwnC W) (B : OwnE W g) (F : FnP X.prog X.w X.K X.mg X.base CX k g sp) (hG : X.A.guards = some []) (hr : Room (k + 1) X.A) (px : Passes CX X E) : OpR X (compareOp .NotEq) (rRuE W true sp E) := by
  rintro pins s σ H x y v u Q I rx ry ⟨c, c', ⟨a, dx, us, rfl, hc, ha⟩, ⟨b, dy, ws, rfl, hc', hb⟩, h⟩
  cases rx
  cases ry
  obtain ⟨ox, od, J, _⟩ := ins_at I ha
  obtain ⟨oy, od', J', _⟩ := ins_at I hb
  have kin := I.kIn
  rw [hK] at kin
  have hu : X.A.units + 1 < cLine := by have := hr.un; omega
  have go : ∀ (p q : V) (pu qu : Value) (P : Bool → Shared → Prop), RelV p pu → RelV q qu → sp [p, q] H (fun v H' => ∃ b, v = .bl b ∧ Q (.bl (if true then !b else b)) H') E → (∀ b s', EP X pins σ Q (.bool (!b)) s' → P b s') → wpAny (model X.prog X.w) X.A.in1 (call (.ref g) [pu, qu]) (PySem.W.BoolBack P) X.xe s := fun p q pu qu P r1 r2 h0 hP =>
    wpAny_mono (run_at (A := X.A.in1) F hG hr.in1 rfl px I (.cons r1 (.cons r2 .nil)) h0) (fun z s' q => by
      obtain ⟨b, rfl, q2⟩ := ep_bool q
      exact hP b s' q2) fun _ _ z => z
  show wpAny _ _ (richCompare .NotEq _ _) _ _ _
  by_cases e : c = 0 ∧ c' = 1
  · obtain ⟨rfl, rfl⟩ := e
    rw [if_pos ⟨rfl, rfl⟩] at h
    exact PySem.W.rc_right (by omega) kin J J' C.ne C.s10 (PySem.W.try_ne (Q := fun r s' => match r with | some v => EP X pins σ Q v s' | none => _) hu kin J' (B.ne 1 (by decide)) (B.ob 1 (by decide)) (B.m.at_ 1 (by decide)) B.m.fn (go (.ref b) (.ref a) _ _ _ rfl rfl h fun b s' q => q))
  · rw [if_neg e] at h
    have hn : PySem.W.notFirst W.K (W.cl c) (.ref (W.cl c')) = true := by
      unfold PySem.W.notFirst
      match c, c', hc, hc', e with
      | 0, 0, _, _, _ => simp
      | 1, 1, _, _, _ => simp
      | 1, 0, _, _, _ => rw [C.s01]; simp
      | 0, 1, _, _, e => exact absurd ⟨rfl, rfl⟩ e
    exact PySem.W.rc_left (by omega) kin J J'.type hn (PySem.W.try_ne hu kin J (B.ne c hc) (B.ob c hc) (B.m.at_ c hc) B.m.fn (go (.ref a) (.ref b) _ _ _ rfl rfl h fun b s' q => ⟨_, rfl, q⟩))
theorem op_ruL (hK : X.K = W.K) (C : OwnC W) (B : OwnL W g) (F : FnP X.prog X.w X.K X.mg X.base CX k g sp) (hG : X.A.guards = some []) (hr : Room k X.A) (px : Passes CX X E) : OpR X (compareOp .LtE) (rRu W sp E) := by
  rintro pins s σ H x y v u Q I rx ry ⟨c, c', ⟨a, dx, us, rfl, hc, ha⟩, ⟨b, dy, ws, rfl, hc', hb⟩, h⟩
  cases rx
  cases ry
  obtain ⟨ox, od, J, _⟩ := ins_at I ha
  obtain ⟨oy, od', J', _⟩ := ins_at I hb
  have kin := I.kIn
  rw [hK] at kin
  have hu : X.A.units < cLine := by have := hr.un; omega
  have r2 : Vals [V.ref a, V.ref b] [Value.ref a, Value.ref b] := .cons rfl (.cons rfl .nil)
  have last : wpAny (model X.prog X.w) X.A (tryCompare (.ref a) (cmpInfo .LtE).2.1 (.ref b)) (fun r s' => ∃ v, r = some v ∧ EP X pins σ Q v s') X.xe s :=
    PySem.W.try_fn kin J (B.m.at_ c hc) B.m.fn (wpAny_mono (run_at F hG hr rfl px I r2 h) (fun z s' q => by
      have := ep_back q
      cases z <;> first | exact this.elim | exact ⟨_, rfl, q⟩) fun _ _ z => z)
  show wpAny _ _ (richCompare .LtE _ _) _ _ _
  by_cases e : c = 0 ∧ c' = 1
  · obtain ⟨rfl, rfl⟩ := e
    exact PySem.W.rc_right hu kin J J' C.ne C.s10 (PySem.W.try_ge (Q := fun r s' => match r with | some v => EP X pins σ Q v s' | none => _) kin J' (B.ge 1 (by decide)) (B.ob 1 (by decide)) last)
  · have hn : PySem.W.notFirst W.K (W.cl c) (.ref (W.cl c')) = true := by
      unfold PySem.W.notFirst
      match c, c', hc, hc', e with
      | 0, 0, _, _, _ => simp
      | 1, 1, _, _, _ => simp
      | 1, 0, _, _, _ => rw [C.s01]; simp
      | 0, 1, _, _, e => exact absurd ⟨rfl, rfl⟩ e
    exact PySem.W.rc_left hu kin J J'.type hn last
/-- value in o -/
def rRuIn (W : Wd) (neg : Bool) (sp : Sp) (E : XK) : R2 := fun x y H Q => ∃ c, InsRu W H y c ∧ sp [y, x] H (fun v H' => ∃ b, v = .bl b ∧ Q (.bl (if neg then !b else b)) H') E
theorem op_ruIn (hK : X.K = W.K) (B : OwnM W "__contains__" g) (F : FnP X.prog X.w X.K X.mg X.base CX k g sp) (hG : X.A.guards = some []) (hr : Room k X.A) (px : Passes CX X E) : OpR X (compareOp .In) (rRuIn W false sp E) := by
  rintro pins s σ H x y v u Q I rx ry ⟨c, ⟨a, dx, us, rfl, hc, ha⟩, h⟩
  cases ry
  obtain ⟨ox, od, J, _⟩ := ins_at I ha
  obtain ⟨m, hF⟩ := I.fr
  have kin := I.ok.mod.kin
  rw [hK] at kin
  exact PySem.W.in_K hF kin J (B.at_ c hc) B.fn (wpAny_mono (run_at F hG hr rfl px I (.cons (a := V.ref a) (F := RelV) rfl (.cons rx .nil)) h) (fun z s' q => by
    obtain ⟨b, rfl, q2⟩ := ep_bool q
    exact wpAny_truthy_bool q2) fun _ _ z => z)
theorem op_ruNin (hK : X.K = W.K) (B : OwnM W "__contains__" g) (F : FnP X.prog X.w X.K X.mg X.base CX k g sp) (hG : X.A.guards = some []) (hr : Room k X.A) (px : Passes CX X E) : OpR X (compareOp .NotIn) (rRuIn W true sp E) := by
  rintro pins s σ H x y v u Q I rx ry ⟨c, ⟨a, dx, us, rfl, hc, ha⟩, h⟩
  cases ry
  obtain ⟨ox, od, J, _⟩ := ins_at I ha
  obtain ⟨m, hF⟩ := I.fr
  have kin := I.ok.mod.kin
  rw [hK] at kin
  exact PySem.W.notIn_K hF kin J (B.at_ c hc) B.fn (wpAny_mono (run_at F hG hr rfl px I (.cons (a := V.ref a) (F := RelV) rfl (.cons rx .nil)) h) (fun z s' q => by
    obtain ⟨b, rfl, q2⟩ := ep_bool q
    exact wpAny_truthy_bool q2) fun _ _ z => z)
/-- o[i] -/
def rRuX (W : Wd) (sp : Sp) (E : XK) : R2 := fun x y H Q => ∃ c, InsRu W H x c ∧ sp [x, y] H Q E
theorem ix_ru (hK : X.K = W.K) (B : OwnM W "__getitem__" g) (F : FnP X.prog X.w X.K X.mg X.base CX k g sp) (hG : X.A.guards = some []) (hr : Room (k + 1) X.A) (px : Passes CX X E) {a b : Expr} {pos : Pos} {ta tb : TE} (ha : PE X a ta) (hb : PE X b tb)
    (hsl : ∀ x i, subscripted b true (.ref x) i = runValue (.builtin "lifetime.subscript" ⟨[.ref x, i], []⟩) := by intro _ _; with_unfolding_all rfl) : PE X (.Subscript a b pos) (tOp (rRuX W sp E) ta tb) := by
  refine ⟨fun pins s σ H Q I h => ?_⟩
  refine Subscript_ (binT ha hb I h fun v u s2 x y H2 I2 rx ry q => ?_)
  obtain ⟨c, ⟨a, dx, us, rfl, hc, ha⟩, h⟩ := q
  cases rx
  obtain ⟨ox, od, J, _⟩ := ins_at I2 ha
  obtain ⟨m, hF⟩ := I2.fr
  have kin := I2.ok.mod.kin
  rw [hK] at kin
  exact PySem.W.sub_K hF kin J (B.at_ c hc) B.fi B.fn (run_at (A := X.A.in1) F hG hr.in1 rfl px I2 (.cons (a := V.ref a) (F := RelV) rfl (.cons ry .nil)) h) (hsl _ _)
/-- len(o) -/
def rRuLen (W : Wd) (sp : Sp) (E : XK) : List V → Hp → VK → Prop := fun xs H Q => ∃ x c, xs = [x] ∧ InsRu W H x c ∧ sp [x] H (fun v H' => ∃ n, v = .int n ∧ (0 ≤ n ∧ n < 2 ^ 63) ∧ Q (.int n) H') E
theorem call_ruLen (hK : X.K = W.K) (B : OwnM W "__len__" g) (F : FnP X.prog X.w X.K X.mg X.base CX k g sp) (hG : X.A.guards = some []) (hr : Room (k + 1) X.A) (px : Passes CX X E) : CallR X (.builtin "len") (rRuLen W sp E) := by
  rintro pins s σ H xs us Q I r ⟨x, c, ex, ⟨a, dx, ws, rfl, hc, ha⟩, h⟩
  subst ex
  obtain ⟨u, rfl, rx⟩ := vals1 r
  cases rx
  obtain ⟨ox, od, J, _⟩ := ins_at I ha
  obtain ⟨m, hF⟩ := I.fr
  have kin := I.ok.mod.kin
  rw [hK] at kin
  exact PySem.W.len_K hF kin J (B.at_ c hc) B.fn (wpAny_mono (run_at (A := X.A.in1) F hG hr.in1 rfl px I (.cons (a := V.ref a) (F := RelV) rfl .nil) h) (fun z s' q => by
    obtain ⟨v, H', I', rv, n, rfl, hn, q⟩ := q
    obtain ⟨t, rfl⟩ := rv
    exact ⟨hn, .int n, H', I'.tok _, ⟨_, rfl⟩, q⟩) fun _ _ z => z)
end
end Ev

/-! Ev17: the operators of the two own classes in the evaluator. -/
namespace Ev
open PySem PySem.Spec PyProof.Rows L2
def isRu : D → Bool
  | .ob c _ => decide (c < 2)
  | _ => false
def isNu : D → Bool
  | .int _ => true
  | _ => false
def cOf : D → Nat
  | .ob c _ => c
  | _ => 0
def asBl (neg : Bool) (r : R D) : R D := r.bind fun d g => match d with
  | .bl b => .ok (.bl (if neg then !b else b)) g
  | _ => .bad
def two (k : D → D → List Cell → R D) (a b : M D) : M D := fun e g => (a e g).bind fun x g1 => (b e g1).bind fun y g2 => k x y g2
def kRu (f : List D → List Cell → R D) : D → D → List Cell → R D := fun x y g => if isRu x = true ∧ isRu y = true then f [x, y] g else .bad
def kRuI (f : List D → List Cell → R D) : D → D → List Cell → R D := fun x y g => if isRu x = true ∧ isNu y = true then f [x, y] g else .bad
def kRuE (neg : Bool) (f : List D → List Cell → R D) : D → D → List Cell → R D := fun x y g => if isRu x = true ∧ isRu y = true then asBl neg (f (if cOf x = 0 ∧ cOf y = 1 then [y, x] else [x, y]) g) else .bad
def kRuIn (neg : Bool) (f : List D → List Cell → R D) : D → D → List Cell → R D := fun x y g => if isRu y = true then asBl neg (f [y, x] g) else .bad
def kRuX (f : List D → List Cell → R D) : D → D → List Cell → R D := fun x y g => if isRu x = true then f [x, y] g else .bad
def ruLen (f : List D → List Cell → R D) (m : M (List D)) : M D := fun e g => (m e g).bind fun ds g1 => match ds with
  | [x] => if isRu x = true then (f [x] g1).bind fun d g2 => match d with
    | .int n => if 0 ≤ n ∧ n < 9223372036854775808 then .ok (.int n) g2 else .bad
    | _ => .bad
    else .bad
  | _ => .bad
def ruCall (n : Nat) (f : List D → List Cell → R D) (mo : M D) (m : M (List D)) : M D := fun e g => (mo e g).bind fun x g1 => if isRu x = true then (m e g1).bind fun ds g2 => if (x :: ds).length = n then f (x :: ds) g2 else .bad else .bad
section
variable {W : Wd} {E : XK} {X : Cx} {CX : CXT} {k : Nat} {g : Addr} {fs : List D → List Cell → R D} {a b : Expr} {ma mb : M D} {pos : Pos} {F : Fb} {H : Hp}
theorem insRu_of {x : D} {v : V} (h : Rep W F H x v) (e : isRu x = true) : InsRu W H v (cOf x) := by
  cases x with
  | ob c d =>
    obtain ⟨a, dx, u, h1, h2, _, h3⟩ := h
    exact ⟨a, dx, _, h1, of_decide_eq_true e, h2⟩
  | _ => cases e
theorem nu_of {x : D} {v : V} (h : Rep W F H x v) (e : isNu x = true) : ∃ i, v = .int i := by
  cases x with
  | int i => exact ⟨i, h⟩
  | _ => cases e
theorem r_two {r : R2} {q : D → D → List Cell → R D} (hq : ∀ (F : Fb) (H : Hp) (g : List Cell) (x y : D) (v u : V) (Q : VK), Cells W F H g → Rep W F H x v → Rep W F H y u → Post W E F H (q x y g) (fun d _ F' H' => ∀ w, Rep W F' H' d w → Q w H') → r v u H Q)
    {σ : L2.St} {H : Hp} {Q : VK} (h : tM W E (two q ma mb) σ H Q) : tOp r (tM W E ma) (tM W E mb) σ H Q := by
  obtain ⟨F, e, g, S, p⟩ := h
  refine ⟨F, e, g, S, (Post.bind p).mono fun x g1 F1 H1 x1 c1 p1 v rx => ⟨F1, e, g1, S.step x1 c1, (Post.bind p1).mono fun y g2 F2 H2 x2 c2 p2 u ry => ?_⟩⟩
  exact hq F2 H2 g2 x y v u Q c2 (rx.up x2.up) ry p2
theorem post_ite {α : Type} {c : Prop} [Decidable c] {r : R α} {g : List Cell} {kk : α → List Cell → Fb → Hp → Prop} (p : Post W E F H (if c then r else .bad) kk) : c ∧ Post W E F H r kk := by
  split at p
  · rename_i h; exact ⟨h, p⟩
  · exact p.elim
theorem post_bl {neg : Bool} {r : R D} {Q : VK} (p : Post W E F H (asBl neg r) fun d _ F' H' => ∀ w, Rep W F' H' d w → Q w H') : Post W E F H r fun d _ F' H' => ∀ w, Rep W F' H' d w → ∃ b, w = .bl b ∧ Q (.bl (if neg then !b else b)) H' := by
  refine (Post.bind p).mono fun d g1 F1 H1 x1 c1 p1 w rw => ?_
  cases d <;> try exact p1.elim
  exact ⟨_, rw, p1 F1 H1 .refl c1 _ (rep_bl _)⟩
theorem sp2 {g : List Cell} {x y : D} {v u : V} {Q : VK} (c : Cells W F H g) (rx : Rep W F H x v) (ry : Rep W F H y u) (p : Post W E F H (fs [x, y] g) fun d _ F' H' => ∀ w, Rep W F' H' d w → Q w H') : spEv W 2 fs [v, u] H Q E :=
  sp_in (n := 2) (ds := [x, y]) c ⟨_, _, rfl, rx, _, _, rfl, ry, rfl⟩ (by rw [if_pos (show [x, y].length = 2 from rfl)]; exact p)
theorem ev_ruB {op : Operator} (hK : X.K = W.K) (C : OwnC W) (B : OwnB W op g) (M : FnP X.prog X.w X.K X.mg X.base CX k g (spEv W 2 fs)) (hG : X.A.guards = some []) (hr : Room k X.A) (px : Passes CX X E) (ha : PE X a (tM W E ma)) (hb : PE X b (tM W E mb)) :
    PE X (.BinOp a op b pos) (tM W E (two (kRu fs) ma mb)) :=
  weakE (pe_op (op_ru hK C B M hG hr px) ha hb) fun _ _ _ h => r_two (fun F H g x y v u Q c rx ry p => by
    obtain ⟨⟨h1, h2⟩, p⟩ := post_ite (g := g) p
    exact ⟨_, _, insRu_of rx h1, insRu_of ry h2, sp2 c rx ry p⟩) h
theorem ev_ruI {op : Operator} (hK : X.K = W.K) (C : OwnC W) (B : OwnI W op g) (M : FnP X.prog X.w X.K X.mg X.base CX k g (spEv W 2 fs)) (hG : X.A.guards = some []) (hr : Room k X.A) (px : Passes CX X E) (ha : PE X a (tM W E ma)) (hb : PE X b (tM W E mb)) :
    PE X (.BinOp a op b pos) (tM W E (two (kRuI fs) ma mb)) :=
  weakE (pe_op (op_ruI hK C B M hG hr px) ha hb) fun _ _ _ h => r_two (fun F H g x y v u Q c rx ry p => by
    obtain ⟨⟨h1, h2⟩, p⟩ := post_ite (g := g) p
    obtain ⟨i, e⟩ := nu_of ry h2
    exact ⟨_, i, insRu_of rx h1, e, sp2 c rx ry p⟩) h
/-- the comparisons -/
structure CmpRu (W : Wd) (E : XK) (X : Cx) (op : CmpOp) (q : D → D → List Cell → R D) : Prop where
  ex : ∃ r, OpR X (compareOp op) r ∧ ∀ (F : Fb) (H : Hp) (g : List Cell) (x y : D) (v u : V) (Q : VK), Cells W F H g → Rep W F H x v → Rep W F H y u → Post W E F H (q x y g) (fun d _ F' H' => ∀ w, Rep W F' H' d w → Q w H') → r v u H Q
theorem c_ruE {neg : Bool} (hK : X.K = W.K) (C : OwnC W) (B : OwnE W g) (M : FnP X.prog X.w X.K X.mg X.base CX k g (spEv W 2 fs)) (hG : X.A.guards = some []) (hr : Room (k + 1) X.A) (px : Passes CX X E) : CmpRu W E X (if neg then .NotEq else .Eq) (kRuE neg fs) := by
  have h0 : OpR X (compareOp (if neg then .NotEq else .Eq)) (rRuE W neg (spEv W 2 fs) E) := by
    cases neg
    · exact op_ruE hK C B M hG hr px
    · exact op_ruN hK C B M hG hr px
  refine ⟨_, h0, fun F H g x y v u Q c rx ry p => ?_⟩
  obtain ⟨⟨h1, h2⟩, p⟩ := post_ite (g := g) p
  have p := post_bl p
  refine ⟨_, _, insRu_of rx h1, insRu_of ry h2, ?_⟩
  split at p
  · rename_i e
    rw [if_pos e]
    exact sp2 c ry rx p
  · rename_i e
    rw [if_neg e]
    exact sp2 c rx ry p
theorem c_ruL (hK : X.K = W.K) (C : OwnC W) (B : OwnL W g) (M : FnP X.prog X.w X.K X.mg X.base CX k g (spEv W 2 fs)) (hG : X.A.guards = some []) (hr : Room k X.A) (px : Passes CX X E) : CmpRu W E X .LtE (kRu fs) :=
  ⟨_, op_ruL hK C B M hG hr px, fun F H g x y v u Q c rx ry p => by
    obtain ⟨⟨h1, h2⟩, p⟩ := post_ite (g := g) p
    exact ⟨_, _, insRu_of rx h1, insRu_of ry h2, sp2 c rx ry p⟩⟩
theorem c_ruIn {neg : Bool} (hK : X.K = W.K) (B : OwnM W "__contains__" g) (M : FnP X.prog X.w X.K X.mg X.base CX k g (spEv W 2 fs)) (hG : X.A.guards = some []) (hr : Room k X.A) (px : Passes CX X E) : CmpRu W E X (if neg then .NotIn else .In) (kRuIn neg fs) := by
  have h0 : OpR X (compareOp (if neg then .NotIn else .In)) (rRuIn W neg (spEv W 2 fs) E) := by
    cases neg
    · exact op_ruIn hK B M hG hr px
    · exact op_ruNin hK B M hG hr px
  refine ⟨_, h0, fun F H g x y v u Q c rx ry p => ?_⟩
  obtain ⟨h1, p⟩ := post_ite (g := g) p
  exact ⟨_, insRu_of ry h1, sp2 c ry rx (post_bl p)⟩
theorem ev_cmpRu {op : CmpOp} {q : D → D → List Cell → R D} (h : CmpRu W E X op q) (ha : PE X a (tM W E ma)) (hb : PE X b (tM W E mb)) (hm : behindInMarks op b = false := by rfl) : PE X (.Compare a [op] [b] pos) (tM W E (two q ma mb)) := by
  obtain ⟨r, ho, hq⟩ := h.ex
  exact weakE (pe_cmpR ho ha hb hm) fun _ _ _ h => r_two hq h
theorem ev_cmpRuT {op : CmpOp} {q : D → D → List Cell → R D} (h : CmpRu W E X op q) (ha : PE X a (tM W E ma)) (hb : PE X b (tM W E mb)) (hm : behindInMarks op b = false := by rfl) : PT X (.Compare a [op] [b] pos) (tB W E (boolM (two q ma mb))) := by
  obtain ⟨r, ho, hq⟩ := h.ex
  exact weakT (pt_cmpR ho ha hb hm) fun _ _ _ hh => r_two hq (r_bool (fun _ _ _ => True) hh)
theorem ev_ruX (hK : X.K = W.K) (B : OwnM W "__getitem__" g) (M : FnP X.prog X.w X.K X.mg X.base CX k g (spEv W 2 fs)) (hG : X.A.guards = some []) (hr : Room (k + 1) X.A) (px : Passes CX X E) (ha : PE X a (tM W E ma)) (hb : PE X b (tM W E mb))
    (hsl : ∀ x i, subscripted b true (.ref x) i = runValue (.builtin "lifetime.subscript" ⟨[.ref x, i], []⟩) := by intro _ _; with_unfolding_all rfl) : PE X (.Subscript a b pos) (tM W E (two (kRuX fs) ma mb)) :=
  weakE (ix_ru hK B M hG hr px ha hb hsl) fun _ _ _ h => r_two (fun F H g x y v u Q c rx ry p => by
    obtain ⟨h1, p⟩ := post_ite (g := g) p
    exact ⟨_, insRu_of rx h1, sp2 c rx ry p⟩) h
theorem ev_ruLen {x : Str} {p1 : Pos} {m : M (List D)} (hK : X.K = W.K) (B : OwnM W "__len__" g) (M : FnP X.prog X.w X.K X.mg X.base CX k g (spEv W 1 fs)) (hG : X.A.guards = some []) (hr : Room (k + 1) X.A) (px : Passes CX X E) (hg : Gl X x) (hm : X.mg x = none) (hv : bootBuiltins x = some (.builtin "len"))
    (ha : PA X [a] (tL W E m)) (hn : x ≠ "__name__" := by decide) (hdb : (x == ("__debug__" : Str)) = false := by decide) (he : starEach [a] X.env = (false, eval a X.env) :: starEach [] X.env := by rfl) (hpl : (backTo pos (starEach [] X.env)).any (·.1) = false := by rfl) :
    PE X (.Call (.Name x p1) [a] [] pos) (tM W E (ruLen fs m)) :=
  weakE (pe_callB (call_ruLen hK B M hG hr px) hg hm hv ha hn hdb he hpl) fun σ H Q ⟨F, e, g, S, p⟩ => by
    refine ⟨F, e, g, S, (Post.bind p).mono fun ds g1 F1 H1 x1 c1 p1 vs rr => ?_⟩
    match ds, p1, rr with
    | [x], p1, rr =>
      obtain ⟨v, r, rfl, rx, r0⟩ := rr
      cases (show r = [] from r0)
      obtain ⟨h1, p1⟩ := post_ite (g := g1) p1
      refine ⟨v, _, rfl, insRu_of rx h1, sp_in (n := 1) (ds := [x]) c1 (RepL.one rx) ?_⟩
      rw [if_pos (show [x].length = 1 from rfl)]
      refine (Post.bind p1).mono fun d g2 F2 H2 x2 c2 p2 w rw => ?_
      cases d <;> try exact p2.elim
      obtain ⟨h2, p2⟩ := post_ite (g := g2) p2
      exact ⟨_, rw, by omega, p2 F2 H2 .refl c2 _ (rep_int _)⟩
    | [], p1, rr => exact p1.elim
    | _ :: _ :: _, p1, rr => exact p1.elim
/-- o(e, ..) -/
theorem ev_ruCall {n : Nat} {es : List Expr} {m : M (List D)} (hK : X.K = W.K) (B : OwnM W "__call__" g) (M : FnP X.prog X.w X.K X.mg X.base CX k g (spEv W n fs)) (hG : X.A.guards = some []) (hr : Room k X.A) (px : Passes CX X E) (ho : PE X a (tM W E ma)) (hes : PA X (b :: es) (tL W E m))
    (ht : eval (.Call a (b :: es) [] pos) X.env = (do callWith pos (← eval a X.env) [] (backTo pos (starEach (b :: es) X.env)) (backToKw pos (keywordEach [] X.env))) := by rfl)
    (he : starEach (b :: es) X.env = (false, eval b X.env) :: starEach es X.env := by rfl) (hpl : (backTo pos (starEach es X.env)).any (·.1) = false := by rfl) : PE X (.Call a (b :: es) [] pos) (tM W E (ruCall n fs ma m)) := by
  refine ⟨fun pins s σ H Q I ⟨F0, en, g0, S, q⟩ => ?_⟩
  have q1 := (Post.bind q).mono fun x g1 F1 H1 x1 c1 p1 v rx => (by
    obtain ⟨h1, p1⟩ := post_ite (g := g1) p1
    exact ⟨x, F1, g1, h1, rx, x1, c1, p1⟩ : ∃ x F1 g1, isRu x = true ∧ Rep W F1 H1 x v ∧ Xe F0 F1 H H1 ∧ Cells W F1 H1 g1 ∧ Post W E F1 H1 ((m en g1).bind fun ds g2 => if (x :: ds).length = n then fs (x :: ds) g2 else .bad) fun d _ F' H' => ∀ w, Rep W F' H' d w → Q w H')
  refine Call_ (thn (ho.run pins s σ H _ I ⟨F0, en, g0, S, q1⟩) fun u s1 ⟨v, H1, I1, rv, x, F1, g1, h1, rx, x1, c1, p1⟩ => ?_) ht
  obtain ⟨ad, dx, us, e1, hc, hA⟩ := insRu_of rx h1
  subst e1
  obtain rfl : u = Value.ref ad := rv
  have q2 : tL W E m σ H1 fun vs H2 => ∃ dx us, H2 ad = some (.ins (W.cl (cOf x)) dx us) ∧ spEv W n fs (V.ref ad :: vs) H2 Q E := ⟨F1, en, g1, S.step x1 c1, (Post.bind p1).mono fun ds g2 F2 H2 x2 c2 p2 vs rr => by
    have rx2 := rx.up x2.up
    obtain ⟨a', dx', us', e', _, hA'⟩ := insRu_of rx2 h1
    cases e'
    exact ⟨dx', us', hA', sp_in (ds := x :: ds) c2 ⟨_, _, rfl, rx2, rr⟩ p2⟩⟩
  refine StX.callO_with (thn (hes.run pos pins s1 σ H1 _ I1 q2) fun us s2 ⟨vs, H2, I2, r, dx', us', hA', h2⟩ => ?_) he hpl
  obtain ⟨ox, od, J, hd⟩ := ins_at I2 hA'
  have kin := I2.kIn
  rw [hK] at kin
  refine ⟨⟨_, ox, od, J, hd⟩, wpAny_call (PySem.W.kco_code kin J hd (B.at_ _ hc) B.fn B.fi ?_)⟩
  exact run_fnPc (us := .ref ad :: us) (vs := .ref ad :: vs) M hG hr px I2 (.cons rfl r) h2
/-! ### isinstance(x, C), C an own class -/
structure OwnI2 (W : Wd) (n : Nat) : Prop where
  cls : ∀ c, c < 2 → Cls W.K (W.cl c)
  at_ : ∀ c, c < 2 → PySem.W.findIn W.K (.ref (W.cl c)) "__class__" = some (some (.builtin "object.__class__"))
  sp : PySem.W.specialIn W.K (.builtin "object.__class__") "__get__" = some (some (.builtin "getset_descriptor.__get__"))
  tk : PySem.W.takesIn W.K (.builtin "object.__class__") = some true
  mro : ∀ c, c < 2 → PySem.W.mroIn W.K (W.cl c) (.type "object") = some true
  yes : ∀ c, c < 2 → PySem.W.kitOne W.K (.ref (W.cl c)) (.ref (W.cl n)) = some (decide (n ≤ c))
  no : ∀ T, T ∈ ["NoneType", "bool", "int", "str", "tuple", "list", "dict"] → PySem.W.kitOne W.K (.type T) (.ref (W.cl n)) = some false
def isiRu (n : Nat) : D → List Cell → Option D := fun d _ => match d with
  | .ob c _ => if c < 2 then some (.bl (decide (n ≤ c))) else none
  | d => match tyD d with
    | some _ => some (.bl false)
    | none => none
theorem tyD_in {d : D} {T : String} (h : tyD d = some T) : T ∈ (["NoneType", "bool", "int", "str", "tuple", "list", "dict"] : List String) := by
  cases d <;> cases h <;> decide
theorem ev_isiRu {n : Nat} {x y : Str} {e : Expr} {me : M D} {p1 p2 : Pos} (hK : X.K = W.K) (B : OwnI2 W n) (hg : Gl X x) (hx : x = ("isinstance" : Str)) (hm : X.mg x = none) (hgT : Gl X y) (hmT : X.mg y = some (.ref (W.cl n))) (hv : bootBuiltins x = some (.builtin "isinstance")) (he : PE X e (tM W E me)) (hn : x ≠ "__name__" := by decide)
    (hd : (x == ("__debug__" : Str)) = false := by decide) (hdT : (y == ("__debug__" : Str)) = false := by decide)
    (s1 : starEach [e, .Name y p2] X.env = (false, eval e X.env) :: starEach [.Name y p2] X.env := by rfl) (s2 : starEach [.Name y p2] X.env = (false, eval (.Name y p2) X.env) :: starEach [] X.env := by rfl) (hpl : (backTo pos (starEach [.Name y p2] X.env)).any (·.1) = false := by rfl) :
    PE X (.Call (.Name x p1) [e, .Name y p2] [] pos) (tM W E (unM (isiRu n) me)) := by
  refine weakE (pe_callB call_isi hg hm hv (pa_cons he (pa_cons (pe_glob (v := .ref (W.cl n)) hgT hmT rfl hdT) pa_nil s2) s1) hn hd s1 hpl) fun σ H Q ⟨F, en, g, S, p⟩ => ?_
  refine ⟨F, en, g, S, (Post.bind p).mono fun x g1 F1 H1 x1 c1 p1 v r1 => ?_⟩
  obtain ⟨d, hd, kk⟩ := post_of p1
  have fin : ∀ T, tyD x = some T → d = .bl false → rIsi X.K [v, .ref (W.cl n)] H1 Q := fun T q e => by
    subst e
    exact ⟨v, .ref (W.cl n), .type T, .ref (W.cl n), false, rfl, .own _, by rw [hK]; exact ty_of r1 q, by rw [hK]; exact B.no T (tyD_in q), kk F1 H1 .refl c1 _ (rep_bl _)⟩
  cases x with
  | ob c x =>
    have hd : (if c < 2 then some (D.bl (decide (n ≤ c))) else none) = some d := hd
    split at hd
    · rename_i hc
      cases hd
      obtain ⟨a, dx, u, e1, h2, _, h3⟩ := r1
      subst e1
      exact ⟨.ref a, .ref (W.cl n), .ref (W.cl c), .ref (W.cl n), _, rfl, .own _, by rw [hK]; exact .base (.ins h2 (B.cls c hc) (B.at_ c hc) B.sp B.tk (B.mro c hc)), by rw [hK]; exact B.yes c hc, kk F1 H1 .refl c1 _ (rep_bl _)⟩
    · cases hd
  | non => exact fin _ rfl (by cases hd; rfl)
  | bl b => exact fin _ rfl (by cases hd; rfl)
  | int b => exact fin _ rfl (by cases hd; rfl)
  | str b => exact fin _ rfl (by cases hd; rfl)
  | tup b => exact fin _ rfl (by cases hd; rfl)
  | lst b => exact fin _ rfl (by cases hd; rfl)
  | sc b => exact fin _ rfl (by cases hd; rfl)
  | g b => cases hd
  | cl b => cases hd
  | dct b => exact fin _ rfl (by cases hd; rfl)
  | exc _ _ => cases hd
  | da b => exact fin _ rfl (by cases hd; rfl)
end
end Ev

/-! Ev18: an __init__ that calls super().__init__(0) first, then sets the one field. -/
namespace Ev
open PySem PySem.Spec PyProof.Rows L2 NdefX
/-- a def that closes over its class -/
abbrev fnOfS (name qual : Str) (st : Stmt) (cc cda : Addr) : NF := ⟨name, qual, defArgs st, defBody st, defScope st, [("__class__", cc)], cda⟩
/-- the field at x, not nameable by data, changes -/
theorem up_at {F : Fb} {H : Hp} {x : Addr} {o : HO} (hx : x ∈ F.nu) : Up F F H (upd H x o) := ⟨fun a u e n => ⟨by
  rw [upd_ne (fun z => n (by rw [z]; exact .inl hx))]
  exact e, n⟩, [], by simp⟩
theorem cells_at {W : Wd} {F : Fb} {H : Hp} {g : List Cell} {x : Addr} {o : HO} (c : Cells W F H g) (hx : x ∈ F.nu) : Cells W F (upd H x o) g := by
  have hn : ∀ a ∈ F.th, a ≠ x := fun a ha z => (c.dj a ha).1 (by rw [z]; exact hx)
  refine ⟨c.nd, c.len, fun n a y h1 h2 => (c.cel n a y h1 h2).up (up_at hx) (upd_ne (hn a (List.mem_of_getElem? h1))), fun a h => ?_, c.dj, c.dj2⟩
  by_cases e : a = x
  · exact ⟨o, by rw [e, upd_same]⟩
  · obtain ⟨u, hu⟩ := c.tr a h
    exact ⟨u, by rw [upd_ne e]; exact hu⟩
def superM (N : Nat) (fi : List D → List Cell → R D) (m : M D) : List D → List Cell → R D := fun ds g => match ds with
  | [d] => (fi [.int 0] g).noex.bind fun _ g1 => (m (inE N [d]) g1).noex
  | _ => .bad
section
variable {W : Wd} {E : XK} {X : Cx} {k : Nat} {f fI cc cda x dx : Addr} {fi : List D → List Cell → R D} {fd : FuncData} {ar : Arg} {body : List Stmt} {p0 p1 p2 p3 p4 p5 : Pos} {j : Nat} {oc cl ccl : Value} {od cld cdd : Option Addr} {osl csl ccs : Array (Option Value)} {vs : Array Value} {file : Str} {tf : Tok} {cd : ClassData}
  {σ : L2.St} {H : Hp} {s : Shared} {Qn : Hp → Prop} {pl : Sem Bool}
/-- super().__init__(0) -/
theorem ex_super (hK : X.K = W.K) (lk : W.K.lookup f = some ⟨oc, od, .func fd, osl⟩) (hp : (fd.params.posonlyargs ++ fd.params.args).head? = some ar) (har : ar.arg = "self")
    (hcode : W.K.lookup cda = some ⟨ccl, cdd, .fields vs, ccs⟩) (hvs : vs[2]? = some (.str file tf)) (hfile : ((X.prog.main.file : Str) == file) = true) (htop : (X.prog.main.scope.names.lookup ("super" : Str)).isSome = false)
    (hcell : W.K.lookup cc = some ⟨cl, cld, .cell (some (.ref (W.cl 1))), csl⟩) (hcls : PySem.W.clsIn W.K (W.cl 1) = some cd) (hsub : PySem.W.subIn W.K (.ref (W.cl 1)) (.ref (W.cl 1)) = some true) (hsuper : X.mg "super" = none)
    (hm : PySem.W.ks_superIn W.K (W.cl 1) (W.cl 1) "__init__" = some (some (.ref fI))) (ht : PySem.W.typeIn W.K (.ref fI) = some (.type "function")) (hfn : PySem.W.fnIn W.K fI = true) (ho : PySem.W.nsIn W.K PySem.cStatics "thirdparty.any" = some none)
    (hks : X.env.kindOf "super" = some .globalImplicit) (hkc : X.env.kindOf "__class__" = some .free) (hce : X.env.cells.lookup ("__class__" : Str) = some cc) (hfu : X.env.func = some f) (hco : X.env.code = .ref cda) (hint : interactive X.env = false)
    (hN : X.N[0]? = some ("self" : Str)) (hsl : X.env.kindOf "self" = some .local)
    (FI : FnP X.prog X.w X.K X.mg X.base CX0 k fI (spIn W 1 fi)) (hg : X.A.guards = some []) (hr : Room k X.A) (px : Passes CX0 X E)
    (hsw : swapsWith (.Call (.Attribute (.Call (.Name "super" p0) [] [] p1) "__init__" p2) [.Constant (.int 0) j p3] [] p4) none p5.line X.env = pure false)
    (he : eval (.Call (.Attribute (.Call (.Name "super" p0) [] [] p1) "__init__" p2) [.Constant (.int 0) j p3] [] p4) X.env = (do
      let ov ← attributeBase (.Call (.Name "super" p0) [] [] p1) "__init__" X.env (eval (.Call (.Name "super" p0) [] [] p1) X.env)
      standAt p2.atName
      let (f, first) ← holding [ov] (getMethod ov "__init__" pl)
      callWith p4 f first (backTo p4 (starEach [.Constant (.int 0) j p3] X.env)) []))
    (hse : starEach [.Constant (.int 0) j p3] X.env = (false, eval (.Constant (.int 0) j p3) X.env) :: starEach [] X.env)
    (I : Inv X [] σ H s) (h0 : σ[0]? = some (some (V.ref x))) (hx : H x = some (.ins (W.cl 1) dx [])) (q : spIn W 1 fi [V.ref x, V.int 0] H (fun v H' => Qn H') E) :
    _root_.PySem.wpAt (model X.prog X.w) X.A (.func body X.env) (exec (.Expr (.Call (.Attribute (.Call (.Name "super" p0) [] [] p1) "__init__" p2) [.Constant (.int 0) j p3] [] p4) p5) X.env) (fun fl s' => fl = .next ∧ ∃ H', Inv X [] σ H' s' ∧ Qn H') X.xe s := by
  have kin := I.kIn
  rw [hK] at kin
  obtain ⟨ox, odx, J, hdat⟩ := ins_at I hx
  refine ks_wpAt_Expr_any ?_ hint hsw
  refine ks_wpAt_MethodCall ?_ he
  refine ks_wpAt_super_base hks hkc (by decide) hfu (kin _ _ lk) rfl hp hco (kin _ _ hcode) rfl hvs hfile htop ?_
  obtain ⟨mb, b1, b2⟩ := I.mod.blt
  refine PySem.W.ks_loadName_global I.ok.kind hks (PySem.Calls.loadGlobal_builtin (by rw [I.ok.glob]; exact I.mod.glob.keeps I.bk) hsuper (by rw [I.ok.blt]; exact b1.keeps I.bk) ((b2 "super" (by decide)).trans (by decide +kernel)) ⟨rfl, ?_⟩)
  refine wpAny_loadName_free I.ok.kind hkc hce ⟨_, kin _ _ hcell, rfl⟩ ?_
  obtain ⟨mm, hn, hl⟩ := I.loc
  obtain ⟨u, ru, lo⟩ := hl 0 "self" (V.ref x) hN h0 (.inl hsl)
  obtain rfl : u = Value.ref x := ru
  have hms : mm "self" = some (Value.ref x) := by
    rcases lo with ⟨_, z⟩ | ⟨z, _⟩
    · exact z
    · rw [hsl] at z
      rcases z with z | z <;> cases z
  rw [har]
  refine wpAny_loadName_local I.ok.kind hsl hn hms ?_
  obtain ⟨oD, hD1, hD2⟩ : ∃ oD, s.heap.get? (W.cl 1) = some oD ∧ oD.data = .cls cd := by
    have hD := hcls
    unfold PySem.W.clsIn at hD
    split at hD
    · rename_i c d cd' sl ho
      cases hD
      exact ⟨_, kin _ _ ho, rfl⟩
    · cases hD
  obtain ⟨hh, g0, d0, t0, os0⟩ := s
  refine ks_wpAny_isType_cls hD1 hD2 ⟨rfl, ?_⟩
  refine ks_wpAny_call_super hD1 hD2 J.at_ J.cls (fun c e => by rw [hdat] at e; cases e) (PySem.W.looks_subIn kin hsub) (fun h' e kk => ?_)
  have I1 : Inv X [] σ H ⟨h', g0, d0, t0, os0⟩ := I.kept (t' := t0) kk
  have kin1 := I1.kIn
  rw [hK] at kin1
  obtain ⟨ox', odx', J', hdat'⟩ := ins_at I1 hx
  obtain ⟨of, hof, hofc⟩ : ∃ of, h'.get? fI = some of ∧ of.cls = .type "function" := by
    have ht' : (W.K.lookup fI).map (·.cls) = some (.type "function") := ht
    cases z : W.K.lookup fI with
    | none => rw [z] at ht'; cases ht'
    | some of => rw [z] at ht'; exact ⟨of, kin1 _ _ z, Option.some.inj ht'⟩
  have hm' : PySem.W.alongIn W.K "__init__" ((cd.mro.dropWhile (· != .ref (W.cl 1))).drop 1) = some (some (.ref fI)) := by
    unfold PySem.W.ks_superIn at hm
    rw [hcls] at hm
    exact hm
  refine ks_wpAny_getMethod_super (l₀ := cd.mro) e (PySem.W.looks_opaque kin1 ho) (fun A Q E s k q => wpAny_bind ((PySem.W.looks_clsIn kin1 hcls) A _ E s k (wpAny_pure q))) rfl kin1 hm' hof hofc (PySem.W.ks_ne kin1 J' hcls) (by decide) ?_
  have I2 : Inv X [(h'.objs.size, PySem.W.methodObj (.ref fI) (.ref x))] σ H ⟨h'.push (PySem.W.methodObj (.ref fI) (.ref x)), g0, d0, t0 + 1, os0⟩ := ClX.pin_new (t' := t0 + 1) I1 (fun _ _ z => Heap.get?_push_of_some _ z) (Nat.le_refl _) (Heap.get?_push_size h' rfl) (fun v z => nomatch z)
  have hL : h'.objs.size ≠ X.env.locals := (I2.pin (h'.objs.size, PySem.W.methodObj (.ref fI) (.ref x)) (List.mem_append_right _ List.mem_cons_self)).2.2.1
  have hb : X.base.get? h'.objs.size = none := ClX.base_none I1 (Nat.le_refl _)
  have kin2 := I2.ok.mod.kin
  rw [hK] at kin2
  refine PySem.W.callWith_M (K := W.K) (h₀ := X.base) (first := []) kin2 (news_at hL hb (ClX.pin_at I2)) List.mem_cons_self hfn ?_ hse rfl
  have pa : PA X [.Constant (.int 0) j p3] (fun σ H Q => Q [V.int 0] H) := pa_cons pe_int pa_nil hse
  refine thn (pa.run p4 [(h'.objs.size, PySem.W.methodObj (.ref fI) (.ref x))] _ σ H (fun vs H' => vs = [V.int 0] ∧ H' = H) I2 ⟨rfl, rfl⟩) fun us s3 ⟨vs, H3, I3, rv, e1, e2⟩ => ?_
  subst e1 e2
  have kin3 := I3.kIn
  rw [hK] at kin3
  refine ⟨⟨ClX.pin_at I3, kin3⟩, ?_⟩
  refine thn (wpAny_call (PySem.W.method_call (ClX.pin_at I3) (run_fnPc (us := .ref x :: us) (vs := [V.ref x, V.int 0]) FI hg hr px I3 (.cons (F := RelV) (a := V.ref x) rfl rv) q))) fun v s4 y => ?_
  obtain ⟨v', H', I4, _, q4⟩ := ClX.unpinE y
  exact ⟨rfl, H', I4, q4⟩
end
section
variable {P : Program} {w : World} {mg : Str → Option Value} {base : Heap} {W : Wd} {k : Nat} {f fI cc cda : Addr} {fi : List D → List Cell → R D} {m : M D} {name qual pv fld : Str} {st : Stmt} {N : List Str} {e : Expr} {p0 p1 p2 p3 p4 p5 p6 p7 p8 : Pos} {j : Nat}
  {dV kV doc pm ct oc cl ccl : Value} {an od cld cdd : Option Addr} {osl csl ccs : Array (Option Value)} {vs : Array Value} {file : Str} {tf : Tok} {cd : ClassData}
theorem in_super (lk : W.K.lookup f = some ⟨oc, od, .func (PySem.W.fnX name qual (defArgs st) (defBody st) (defScope st) [("__class__", cc)] dV kV doc pm an (.ref cda) ct), osl⟩) (hcd : PySem.W.codeIn W.K (.ref cda) qual = true)
    (hcode : W.K.lookup cda = some ⟨ccl, cdd, .fields vs, ccs⟩) (hvs : vs[2]? = some (.str file tf)) (hfile : ((P.main.file : Str) == file) = true) (htop : (P.main.scope.names.lookup ("super" : Str)).isSome = false)
    (hcell : W.K.lookup cc = some ⟨cl, cld, .cell (some (.ref (W.cl 1))), csl⟩) (hcls : PySem.W.clsIn W.K (W.cl 1) = some cd) (hsub : PySem.W.subIn W.K (.ref (W.cl 1)) (.ref (W.cl 1)) = some true) (hsuper : mg "super" = none)
    (hm : PySem.W.ks_superIn W.K (W.cl 1) (W.cl 1) "__init__" = some (some (.ref fI))) (ht : PySem.W.typeIn W.K (.ref fI) = some (.type "function")) (hfn : PySem.W.fnIn W.K fI = true) (ho : PySem.W.nsIn W.K PySem.cStatics "thirdparty.any" = some none)
    (S : NScope N [("self" : Str), pv] [("__class__" : Str)] (defScope st)) (hN : N = [("self" : Str), pv, "__class__"]) (hs2 : (defScope st).names.lookup ("super" : Str) = some .globalImplicit) (hsc : (defScope st).names.lookup ("__class__" : Str) = some .free)
    (hb : ∀ a b : Value, bindArgs (PySem.W.fnX name qual (defArgs st) (defBody st) (defScope st) [("__class__", cc)] dV kV doc pm an (.ref cda) ct) ⟨[a, b], []⟩ = pure [(("self" : Str), a), (pv, b)])
    (hp : ((defArgs st).posonlyargs ++ (defArgs st).args).head?.map (·.arg) = some "self")
    (hbody : defBody st = [.Expr (.Call (.Attribute (.Call (.Name "super" p0) [] [] p1) "__init__" p2) [.Constant (.int 0) j p3] [] p4) p5, .Assign [.Attribute (.Name "self" p6) fld p7] e p8])
    (hclC : Cls W.K (W.cl 1)) (hna : NoAttr W.K (W.cl 1) fld) (hf : W.fd 1 = fld)
    (FI : FnP P w W.K mg base CX0 k fI (spIn W 1 fi))
    (h : ∀ (A : Around) (out : List PySem.Env) (s : Shared) (H : Hp) (E : XK), (A.deeper (envF (fnOfS name qual st cc cda) f s.heap.objs.size)).guards = some [] → Room k (A.deeper (envF (fnOfS name qual st cc cda) f s.heap.objs.size)) →
      PE (ncx CX0 P w W.K mg base N (fnOfS name qual st cc cda) f A out s H E) e (tM W E m) ∧
      swapsWith (.Call (.Attribute (.Call (.Name "super" p0) [] [] p1) "__init__" p2) [.Constant (.int 0) j p3] [] p4) none p5.line (ncx CX0 P w W.K mg base N (fnOfS name qual st cc cda) f A out s H E).env = pure false ∧
      swapsWith e (some (.Attribute (.Name "self" p6) fld p7)) p8.line (ncx CX0 P w W.K mg base N (fnOfS name qual st cc cda) f A out s H E).env = pure false ∧
      (∃ pl, eval (.Call (.Attribute (.Call (.Name "super" p0) [] [] p1) "__init__" p2) [.Constant (.int 0) j p3] [] p4) (ncx CX0 P w W.K mg base N (fnOfS name qual st cc cda) f A out s H E).env = (do
        let ov ← attributeBase (.Call (.Name "super" p0) [] [] p1) "__init__" (ncx CX0 P w W.K mg base N (fnOfS name qual st cc cda) f A out s H E).env (eval (.Call (.Name "super" p0) [] [] p1) (ncx CX0 P w W.K mg base N (fnOfS name qual st cc cda) f A out s H E).env)
        standAt p2.atName
        let (f9, first) ← holding [ov] (getMethod ov "__init__" pl)
        callWith p4 f9 first (backTo p4 (starEach [.Constant (.int 0) j p3] (ncx CX0 P w W.K mg base N (fnOfS name qual st cc cda) f A out s H E).env)) []))) :
    FnP P w W.K mg base CX0 (k + 1) f (spIn W 1 (superM N.length fi m)) := by
  intro A outer s H us vs' Q E hg hr e0 rv ⟨x, dx, rest, nu, th, ds, g, ev, hx, hxn, cc', rr, p⟩
  subst ev
  match ds, p with
  | [], p => exact p.elim
  | _ :: _ :: _, p => exact p.elim
  | [d], p =>
  obtain ⟨v1, r0, e1, rd, e2⟩ := rr
  cases (show r0 = [] from e2)
  subst e1
  obtain ⟨u0, us1, rfl, ru0, r1⟩ : ∃ u0 us1, us = u0 :: us1 ∧ RelV (V.ref x) u0 ∧ Vals [v1] us1 := by
    cases rv with
    | cons a b => exact ⟨_, _, rfl, a, b⟩
  obtain rfl : u0 = Value.ref x := ru0
  obtain ⟨u1, rfl, ru1⟩ := vals1 r1
  have KX : W.K.In s.heap := e0.mod.kin.keeps fun b o e => (e0.bs b o e).1
  have lim : s.heap.NoLimit := e0.mod.nolimit.keeps fun b o e => (e0.bs b o e).1
  let F : NF := fnOfS name qual st cc cda
  have hcc : s.heap.get? cc = some _ := KX _ _ hcell
  have C : CellsAt F.cl ["__class__"] [none] s.heap H := by
    refine ⟨rfl, fun y c e => ?_, fun y z c e1 e2 => ?_, fun i y hi => ?_⟩
    · have e : List.lookup y [(("__class__" : Str), cc)] = some c := e
      simp only [List.lookup] at e
      split at e
      · cases e
        refine ⟨?_, _, ⟨_, hcc, rfl⟩⟩
        have q := e0.mod.kin _ _ hcell
        exact (e0.bs _ _ q).2
      · cases e
    · have e1 : List.lookup y [(("__class__" : Str), cc)] = some c := e1
      have e2 : List.lookup z [(("__class__" : Str), cc)] = some c := e2
      simp only [List.lookup] at e1 e2
      split at e1
      · split at e2
        · rename_i h1 _ h2
          rw [beq_iff_eq.mp h1, beq_iff_eq.mp h2]
        · cases e2
      · cases e1
    · match i, hi with
      | 0, hi =>
        cases hi
        exact ⟨cc, by show List.lookup _ [(("__class__" : Str), cc)] = _; simp [List.lookup], fun v z => by cases z⟩
      | i + 1, hi => simp at hi
  have r2 : Vals [V.ref x, v1] [Value.ref x, u1] := .cons rfl (.cons ru1 .nil)
  have hpar : ∀ y ∈ [(("self" : Str), Value.ref x), (pv, u1)], (defScope st).names.lookup y.1 = some .local := fun y hy => by
    refine S.par y.1 ?_
    simp at hy
    rcases hy with rfl | rfl
    · simp
    · simp
  refine PySem.ks_codeAny_call_defAt (fd := PySem.W.fnX name qual (defArgs st) (defBody st) (defScope st) [("__class__", cc)] dV kV doc pm an (.ref cda) ct) (body := defBody st) (binds := [(("self" : Str), Value.ref x), (pv, u1)]) hr.depth (KX _ _ lk) rfl lim (PySem.W.codeRec_of KX hcd) rfl
    (BindsTo.of_eq (hb _ _)) S.nocell hpar (fun h₁ hns hk => ?_) S.co S.gen S.kind
  have I : Inv (ncx CX0 P w W.K mg base N F f A outer s H E) [] (startF N [V.ref x, v1] [none]) H { s with heap := h₁, toks := s.toks + 2 } := inv_startN S hr.hd e0 rfl r2 C hns hk
  obtain ⟨d1, d2', d3, pl, d4⟩ := h A outer s H E hg (hr.deeper _)
  have rm : Room k (ncx CX0 P w W.K mg base N F f A outer s H E).A := hr.deeper _
  show _root_.PySem.wpAt (model P w) (ncx CX0 P w W.K mg base N F f A outer s H E).A (.func (defBody st) (ncx CX0 P w W.K mg base N F f A outer s H E).env) (execs (defBody st) (ncx CX0 P w W.K mg base N F f A outer s H E).env)
    (fun fl s' => CE outer P w H s Q (match fl with | .ret v => v | _ => .none) s') (ncx CX0 P w W.K mg base N F f A outer s H E).xe { s with heap := h₁, toks := s.toks + 2 }
  rw [hbody]
  obtain ⟨y, g2, hy, p⟩ := post_noex p
  obtain ⟨d2, g3, hd2, p⟩ : ∃ d2 g3, m (inE N.length [d]) g2 = .ok d2 g3 ∧ ∀ F' H', Xe ⟨nu, [], th⟩ F' H H' → Cells W F' H' g3 → ∀ v, Rep W F' H' d2 v → Q .non (upd H' x (.ins (W.cl 1) dx [(W.fd 1, v)])) := by
    revert p
    generalize m (inE N.length [d]) g2 = r
    intro p
    cases r with
    | ok a g => exact ⟨a, g, rfl, p⟩
    | ex c d g => exact p.elim
    | bad => exact p.elim
  have nx0 : x ∉ th := fun z => (cc'.dj x z).1 hxn
  let Qn : Hp → Prop := fun Hx => ∃ F1 H1 v0, Hx = upd H1 x (.ins (W.cl 1) dx [(W.fd 1, v0)]) ∧ Xe ⟨nu, [], th⟩ F1 H H1 ∧ Cells W F1 H1 g2
  have q : spIn W 1 fi [V.ref x, V.int 0] H (fun v H' => Qn H') E := ⟨x, dx, [V.int 0], nu, th, [.int 0], g, rfl, hx, hxn, cc', RepL.one (rep_int 0), by
    rw [hy]
    exact fun F' H' xx c' v rv => ⟨F', H', v, rfl, xx, c'⟩⟩
  have hself : (ncx CX0 P w W.K mg base N F f A outer s H E).env.kindOf "self" = some .local := S.par "self" (by simp)
  obtain ⟨ar, hp1, hp2⟩ := Option.map_eq_some_iff.mp hp
  have hN0 : (ncx CX0 P w W.K mg base N F f A outer s H E).N[0]? = some ("self" : Str) := by show N[0]? = _; rw [hN]; rfl
  have hint : interactive (ncx CX0 P w W.K mg base N F f A outer s H E).env = false := by
    show interactive (envF F f s.heap.objs.size) = false
    have hk : (envF F f s.heap.objs.size).scope.kind = .function := S.kind
    unfold interactive
    rw [hk]
    rfl
  have hst : startF N [V.ref x, v1] [none] = L2.start N [V.ref x, v1] := by rw [hN]; rfl
  refine ks_wpAt_execs_cons (ks_wpAt_mono (ex_super (W := W) (X := ncx CX0 P w W.K mg base N F f A outer s H E) (E := E) (Qn := Qn) (x := x) (dx := dx) (σ := startF N [V.ref x, v1] [none]) (s := { s with heap := h₁, toks := s.toks + 2 }) rfl lk hp1 hp2 hcode hvs hfile htop hcell hcls hsub hsuper hm ht hfn ho hs2 hsc
    (by show List.lookup _ [(("__class__" : Str), cc)] = _; simp [List.lookup]) rfl rfl hint hN0 hself FI hg rm pass00 d2' d4 rfl I rfl hx q) (fun fl s1 hz => ?_) fun _ _ z => z)
  obtain ⟨rfl, Hx, I1, F1, H1, v0, eH, x1, c1⟩ := hz
  subst eH
  dsimp only
  have n1 : F1.nu = nu := x1.nu
  have o1 : F1.om = [] := x1.om
  have hx1 : H1 x = some (.ins (W.cl 1) dx []) := x1.keep x _ hx nx0
  have nx1 : x ∉ F1.th := fun z => (c1.dj x z).1 (by rw [n1]; exact hxn)
  have hxn1 : x ∈ F1.nu := by rw [n1]; exact hxn
  have S1 : St W F1 (inE N.length [d]) g2 (startF N [V.ref x, v1] [none]) (upd H1 x (.ins (W.cl 1) dx [(W.fd 1, v0)])) := by
    obtain ⟨n', o', t'⟩ := F1
    cases n1
    cases o1
    rw [hst]
    exact inE_st (cells_at c1 hxn1) (RepL.one ((rd.up x1.up).up (up_at hxn1))) (by rw [hN]; simp)
  have tv : tM W E m (startF N [V.ref x, v1] [none]) (upd H1 x (.ins (W.cl 1) dx [(W.fd 1, v0)])) (fun v H2 => tVar 0 (startF N [V.ref x, v1] [none]) H2 fun z H2 => ∃ a C dy fs, z = .ref a ∧ H2 a = some (.ins C dy fs) ∧ Cls W.K C ∧ NoAttr W.K C fld ∧ fs.length < 1000 ∧ Q .non (upd H2 a (.ins C dy (putF fld v fs)))) := by
    refine ⟨F1, _, g2, S1, ?_⟩
    rw [hd2]
    intro F2 H2 x2 c2 v rv'
    have hx2 : H2 x = some (.ins (W.cl 1) dx [(W.fd 1, v0)]) := x2.keep x _ upd_same nx1
    refine ⟨V.ref x, rfl, x, W.cl 1, dx, _, rfl, hx2, hclC, hna, by simp, ?_⟩
    have hxn2 : x ∈ F2.nu := by rw [x2.nu]; exact hxn1
    have x2' : Xe F1 F2 H1 (upd H2 x (.ins (W.cl 1) dx [])) := by
      refine ⟨fun a o h n => ?_, fun a o h => ?_, ?_, x2.nu, x2.om⟩
      · by_cases e : a = x
        · rw [e] at h ⊢
          rw [hx1] at h
          cases h
          exact upd_same
        · rw [upd_ne e]
          exact x2.keep a o (by rw [upd_ne e]; exact h) n
      · by_cases e : a = x
        · exact ⟨_, by rw [e]; exact upd_same⟩
        · obtain ⟨u, hu⟩ := x2.st a o (by rw [upd_ne e]; exact h)
          exact ⟨u, by rw [upd_ne e]; exact hu⟩
      · obtain ⟨m2, e2, hm2⟩ := x2.th
        refine ⟨m2, e2, fun a ha => ?_⟩
        have z := hm2 a ha
        by_cases e : a = x
        · rw [e, upd_same] at z; cases z
        · rw [upd_ne e] at z; exact z
    have fin := p F2 _ (x1.trans x2') (cells_at c2 hxn2) v (rv'.up (up_at hxn2))
    rw [upd_upd] at fin
    have e3 : putF fld v [(W.fd 1, v0)] = [(W.fd 1, v)] := by rw [hf]; simp [putF]
    rw [e3]
    exact fin
  have ps := pss_one (ps_fld (X := ncx CX0 P w W.K mg base N F f A outer s H E) (f := fld) (pe_var (i := 0) (x := "self") hN0 (.inl hself)) d1 d3)
  refine wpAt_of_wpAny (wpAny_mono (ps.run [] s1 _ _ { nx := fun _ H' => Q .non H', rt := Q } I1 tv) (fun fl s' hs => ?_) fun _ _ z => z)
  have fin : ∀ {σ' : L2.St} {H' : Hp} {v : V} {u : Value}, Inv (ncx CX0 P w W.K mg base N F f A outer s H E) [] σ' H' s' → L2.RelV v u → Q v H' → CE outer P w H s Q u s' :=
    fun {σ' H' v u} J rv q => ⟨v, H', J.os, J.bare, J.base, J.hok, rv, q⟩
  cases fl with
  | ret u =>
    obtain ⟨v, σ', H', J, rv, q⟩ := hs
    exact fin J rv q
  | next =>
    obtain ⟨σ', H', J, q⟩ := hs
    exact fin (v := V.non) (u := Value.none) J rfl q
  | brk =>
    obtain ⟨_, _, _, q⟩ := hs
    exact False.elim q
  | cont =>
    obtain ⟨_, _, _, q⟩ := hs
    exact False.elim q
end
end Ev
namespace Ev
open PySem PySem.Spec PyProof.Rows L2 NdefX
/-- what of the program an __init__ with super() asks -/
structure SupP (P : Program) (file : Str) : Prop where
  fl : ((P.main.file : Str) == file) = true
  tp : (P.main.scope.names.lookup ("super" : Str)).isSome = false
/-- a class's __init__ that closes over its class -/
structure DmS (W : Wd) (mg : Str → Option Value) (x qual : Str) (st : Stmt) (fI : Addr) where
  f : Addr
  cc : Addr
  cda : Addr
  file : Str
  fd : FuncData
  dt : ∃ (oc cl ccl doc pm ct dV kV : Value) (od cld cdd an : Option Addr) (osl csl ccs : Array (Option Value)) (vs : Array Value) (tf : Tok) (cd : ClassData),
    fd = PySem.W.fnX x qual (defArgs st) (defBody st) (defScope st) [("__class__", cc)] dV kV doc pm an (.ref cda) ct ∧
    W.K.lookup f = some ⟨oc, od, .func fd, osl⟩ ∧ W.K.lookup cda = some ⟨ccl, cdd, .fields vs, ccs⟩ ∧ vs[2]? = some (.str file tf) ∧
    W.K.lookup cc = some ⟨cl, cld, .cell (some (.ref (W.cl 1))), csl⟩ ∧ PySem.W.clsIn W.K (W.cl 1) = some cd
  hcd : PySem.W.codeIn W.K (.ref cda) qual = true
  hsub : PySem.W.subIn W.K (.ref (W.cl 1)) (.ref (W.cl 1)) = some true
  hsuper : mg "super" = none
  hm : PySem.W.ks_superIn W.K (W.cl 1) (W.cl 1) "__init__" = some (some (.ref fI))
  ht : PySem.W.typeIn W.K (.ref fI) = some (.type "function")
  hfn : PySem.W.fnIn W.K fI = true
  ho : PySem.W.nsIn W.K PySem.cStatics "thirdparty.any" = some none
  hb : ∀ a b : Value, ∀ pv, ((defArgs st).posonlyargs ++ (defArgs st).args).map (·.arg) = [("self" : Str), pv] → bindArgs fd ⟨[a, b], []⟩ = pure [(("self" : Str), a), (pv, b)]
section
variable {P : Program} {w : World} {mg : Str → Option Value} {base : Heap} {W : Wd} {k : Nat} {fI : Addr} {fi : List D → List Cell → R D} {m : M D} {name qual pv fld : Str} {st : Stmt} {N : List Str} {e : Expr} {p0 p1 p2 p3 p4 p5 p6 p7 p8 : Pos} {j : Nat}
theorem in_superT (T : DmS W mg name qual st fI) (SP : SupP P T.file)
    (S : NScope N [(("self" : Str)), pv] [("__class__" : Str)] (defScope st)) (hN : N = [("self" : Str), pv, "__class__"]) (hs2 : (defScope st).names.lookup ("super" : Str) = some .globalImplicit) (hsc : (defScope st).names.lookup ("__class__" : Str) = some .free)
    (hp : ((defArgs st).posonlyargs ++ (defArgs st).args).map (·.arg) = [("self" : Str), pv])
    (hbody : defBody st = [.Expr (.Call (.Attribute (.Call (.Name "super" p0) [] [] p1) "__init__" p2) [.Constant (.int 0) j p3] [] p4) p5, .Assign [.Attribute (.Name "self" p6) fld p7] e p8])
    (hclC : Cls W.K (W.cl 1)) (hna : NoAttr W.K (W.cl 1) fld) (hf : W.fd 1 = fld)
    (FI : FnP P w W.K mg base CX0 k fI (spIn W 1 fi))
    (h : ∀ (A : Around) (out : List PySem.Env) (s : Shared) (H : Hp) (E : XK), (A.deeper (envF (fnOfS name qual st T.cc T.cda) T.f s.heap.objs.size)).guards = some [] → Room k (A.deeper (envF (fnOfS name qual st T.cc T.cda) T.f s.heap.objs.size)) →
      PE (ncx CX0 P w W.K mg base N (fnOfS name qual st T.cc T.cda) T.f A out s H E) e (tM W E m) ∧
      swapsWith (.Call (.Attribute (.Call (.Name "super" p0) [] [] p1) "__init__" p2) [.Constant (.int 0) j p3] [] p4) none p5.line (ncx CX0 P w W.K mg base N (fnOfS name qual st T.cc T.cda) T.f A out s H E).env = pure false ∧
      swapsWith e (some (.Attribute (.Name "self" p6) fld p7)) p8.line (ncx CX0 P w W.K mg base N (fnOfS name qual st T.cc T.cda) T.f A out s H E).env = pure false ∧
      (∃ pl, eval (.Call (.Attribute (.Call (.Name "super" p0) [] [] p1) "__init__" p2) [.Constant (.int 0) j p3] [] p4) (ncx CX0 P w W.K mg base N (fnOfS name qual st T.cc T.cda) T.f A out s H E).env = (do
        let ov ← attributeBase (.Call (.Name "super" p0) [] [] p1) "__init__" (ncx CX0 P w W.K mg base N (fnOfS name qual st T.cc T.cda) T.f A out s H E).env (eval (.Call (.Name "super" p0) [] [] p1) (ncx CX0 P w W.K mg base N (fnOfS name qual st T.cc T.cda) T.f A out s H E).env)
        standAt p2.atName
        let (f9, first) ← holding [ov] (getMethod ov "__init__" pl)
        callWith p4 f9 first (backTo p4 (starEach [.Constant (.int 0) j p3] (ncx CX0 P w W.K mg base N (fnOfS name qual st T.cc T.cda) T.f A out s H E).env)) []))) :
    FnP P w W.K mg base CX0 (k + 1) T.f (spIn W 1 (superM N.length fi m)) := by
  obtain ⟨oc, cl, ccl, doc, pm, ct, dV, kV, od, cld, cdd, an, osl, csl, ccs, vs, tf, cd, h1, h2, h3, h4, h5, h6⟩ := T.dt
  have hb := fun a b => T.hb a b pv hp
  rw [h1] at h2 hb
  refine in_super h2 T.hcd h3 h4 SP.fl SP.tp h5 h6 T.hsub T.hsuper T.hm T.ht T.hfn T.ho S hN hs2 hsc hb ?_ hbody hclC hna hf FI h
  cases q : (defArgs st).posonlyargs ++ (defArgs st).args with
  | nil => rw [q] at hp; cases hp
  | cons a r =>
    rw [q] at hp
    simp only [List.map_cons] at hp
    injection hp with e1 e2
    simp [e1]
end
end Ev

/-! Ev19: a, b, c = x, y, z. -/
namespace Ev
open PySem PySem.Spec PyProof.Rows L2
section
variable {W : Wd} {E : XK} {X : Cx} {a b c : Expr} {ma mb mc : M D} {x y z : Str} {p1 p2 p3 pt pt2 pos : Pos} {kt k2 : Nat}
def par3S (i j l : Nat) (m1 m2 m3 : M D) : MS := fun e g => (m1 e g).toS fun x g1 => (m2 e g1).toS fun y g2 => (m3 e g2).toS fun z g3 => .nx (((e.set i (.v x)).set j (.v y)).set l (.v z)) g3
theorem es_par3 {i j l : Nat} (hc : X.calm = true) (hN : X.N.Nodup) (h1 : PE X a (tM W E ma)) (h2 : PE X b (tM W E mb)) (h3 : PE X c (tM W E mc)) (hi : X.N[i]? = some x := by rfl) (hj : X.N[j]? = some y := by rfl) (hl : X.N[l]? = some z := by rfl) (hij : i ≠ j := by decide) (hil : i ≠ l := by decide) (hjl : j ≠ l := by decide)
    (hx : X.env.scope.names.lookup x = some .local := by rfl) (hy : X.env.scope.names.lookup y = some .local := by rfl) (hz : X.env.scope.names.lookup z = some .local := by rfl)
    (hs1 : starEach [a, b, c] X.env = (false, eval a X.env) :: starEach [b, c] X.env := by rfl) (hs2 : starEach [b, c] X.env = (false, eval b X.env) :: starEach [c] X.env := by rfl) (hs3 : starEach [c] X.env = (false, eval c X.env) :: starEach [] X.env := by rfl)
    (hw : swappedStores [.Tuple [.Name x p1, .Name y p2, .Name z p3] kt pt] (.Tuple [a, b, c] k2 pt2) X.env = pure (some [x, y, z]) := by rfl)
    (hs : swapsWithSole [.Tuple [.Name x p1, .Name y p2, .Name z p3] kt pt] (.Tuple [a, b, c] k2 pt2) pos.line X.env = pure false := by rfl) :
    PS X (.Assign [.Tuple [.Name x p1, .Name y p2, .Name z p3] kt pt] (.Tuple [a, b, c] k2 pt2) pos) (tMS W E (par3S i j l ma mb mc)) := weakS (ps_par3 hc hN hi hj hl hij hil hjl hx hy hz (pa_cons h1 (pa_cons h2 (pa_cons h3 pa_nil hs3) hs2) hs1) hw hs) fun D0 σ H ⟨F, e, g, S, p⟩ => by
  refine ⟨F, e, g, S, p.toS.mono fun d g1 F1 H1 x1 c1 k1 v r => ?_⟩
  refine ⟨F1, e, g1, S.step x1 c1, k1.toS.mono fun d2 g2 F2 H2 x2 c2 k2 u r2 => ?_⟩
  refine ⟨F2, e, g2, (S.step x1 c1).step x2 c2, k2.toS.mono fun d3 g3 F3 H3 x3 c3 k3 w r3 => ?_⟩
  exact ⟨v, u, w, rfl, k3 F3 _ H3 .refl ((((((S.step x1 c1).step x2 c2).step x3 c3).put ((r.up x2.up).up x3.up) i).put (r2.up x3.up) j).put r3 l)⟩
end
end Ev

/-! Ev20: a def of the module with *rest as its last parameter, called by places -/
namespace Ev
open PySem PySem.Spec PyProof.Rows L2
/-- m items go to names, the others into one tuple -/
def starN (m : Nat) (fs : List D → List Cell → R D) : List D → List Cell → R D := fun ds g => if (ds.drop m).length ≤ 16777216 then fs (ds.take m ++ [.tup (ds.drop m)]) g else .bad
theorem RepL.split {W : Wd} {F : Fb} {H : Hp} : ∀ {ds : List D} {vs : List V} (m : Nat), RepL W F H ds vs → RepL W F H (ds.take m) (vs.take m) ∧ RepL W F H (ds.drop m) (vs.drop m)
  | [], _, m, r => by
    have r : _ = [] := r
    subst r
    rw [List.take_nil, List.take_nil, List.drop_nil, List.drop_nil]
    exact ⟨(rfl : ([] : List V) = []), (rfl : ([] : List V) = [])⟩
  | _ :: _, _, 0, r => ⟨(rfl : ([] : List V) = []), r⟩
  | _ :: _, _, m + 1, ⟨v, rest, e, h1, h2⟩ => by
    subst e
    obtain ⟨k1, k2⟩ := RepL.split m h2
    exact ⟨⟨v, _, rfl, h1, k1⟩, k2⟩
theorem fn_starP {P : Program} {w : World} {mg : Str → Option Value} {base : Heap} {W : Wd} {k m n l : Nat} {x qual pv : Str} {st : Stmt} {f : Addr} {fd : FuncData} {N ps : List Str} {body : MS} (F : Fun W.K x qual st f fd) (S : FnScope N (ps ++ [pv]) (defScope st)) (hn : ps.length = m) (hm : N.length = l) (hnm : m ≤ n)
    (hb : ∀ us rest : List Value, us.length = ps.length → bindArgs fd ⟨us ++ rest, []⟩ = (newTuple rest >>= fun t => pure (ps.zip us ++ [(pv, t)])))
    (h : ∀ (cdv : Value) (A : Around) (out : List PySem.Env) (s : Shared) (H : Hp) (E : XK), (A.deeper (envOfC qual (defScope st) s.heap.objs.size f cdv)).guards = some [] → Room k (A.deeper (envOfC qual (defScope st) s.heap.objs.size f cdv)) →
      PSs (cxOf CX0 P w W.K mg base N qual (defScope st) f cdv A out s H E).nox (defBody st) (tMS W E body)) :
    FnP P w W.K mg base CX0 (k + 1) f (spEv W n (starN m (fnM (m + 1) l body))) := by
  subst hn hm
  obtain ⟨oc, od, kV, doc, pm, an, cdv, ct, osl, rfl, lk, hcd⟩ := F.ex
  intro A outer s H us vs Q E hg hr e0 rv ⟨nu, th, ds, g, cc, r, hl, p⟩
  have hv : vs.length = n := by rw [← r.length]; exact hl
  obtain ⟨u1, u2, eu, r1, r2⟩ := StX.vals_split (ws := vs.take ps.length) (rest := vs.drop ps.length) (by rw [List.take_append_drop]; exact rv)
  subst eu
  have hq : H s.heap.objs.size = Option.none := e0.hok.fresh (Nat.le_refl _)
  have hl1 : u1.length = ps.length := by rw [← r1.length, List.length_take]; omega
  unfold starN at p
  have hz : (ds.drop ps.length).length ≤ 16777216 := by
    by_cases q : (ds.drop ps.length).length ≤ 16777216
    · exact q
    · rw [if_neg q] at p; exact p.elim
  rw [if_pos hz] at p
  obtain ⟨k1, k2⟩ := RepL.split ps.length r
  have hz2 : (vs.drop ps.length).length ≤ sizeLine := by rw [← k2.length]; exact hz
  refine StX.run_bnd lk hcd S hr e0 (G := fun xs H2 => ∃ q, H q = Option.none ∧ xs = vs.take ps.length ++ [V.ref q] ∧ H2 = upd H q (.tup (vs.drop ps.length))) (fun A' Ex Q' h => ?_) fun s2 H2 xs ⟨q, hq, ex, eH⟩ hr' => ?_
  · rw [hb u1 u2 hl1]
    refine wpAny_bind (wpAny_newTuple (wpAny_pure ?_) (by rw [← r2.length]; exact hz2))
    have new : ObjOk P w (upd H s.heap.objs.size (.tup (vs.drop ps.length))) (s.heap.push ({ cls := .type "tuple", data := .seq u2.toArray } : Obj)) s.heap.objs.size (.tup (vs.drop ps.length)) := ⟨hz2, u2, r2, ⟨_, Heap.get?_push_size _ rfl, rfl, _, rfl⟩⟩
    have un := StX.un_laid (fs := frs outer) (s := s) (o := ({ cls := .type "tuple", data := .seq u2.toArray } : Obj)) (u := .tup (vs.drop ps.length)) hq
    have z := h _ _ (vs.take ps.length ++ [V.ref s.heap.objs.size]) (u1 ++ [Value.ref s.heap.objs.size]) (StX.env0_laid e0 new) un rfl (fun e s' => cxUp0 outer s H _ _ E e s' un (fun b o q => Heap.get?_push_of_some _ q) rfl) (r1.append (.cons rfl .nil))
      (by rw [List.length_append, List.length_append, r1.length, hl1]; rfl) ⟨_, hq, rfl, rfl⟩
    rw [List.zip_append hl1.symm] at z
    exact z
  · subst ex eH
    have d1 := h cdv A outer s2 (upd H q (.tup (vs.drop ps.length))) E hg hr'
    have nq : ¬ (⟨nu, [], th⟩ : Fb).has q := cc.none hq
    have rl : RepL W ⟨nu, [], th⟩ (upd H q (.tup (vs.drop ps.length))) (ds.take ps.length ++ [.tup (ds.drop ps.length)]) (vs.take ps.length ++ [V.ref q]) :=
      (k1.up (Xe.new hq).up).append (RepL.one ⟨q, _, rfl, .inl ⟨.inl upd_same, nq⟩, k2.up (Xe.new hq).up⟩)
    have hln : (ds.take ps.length ++ [D.tup (ds.drop ps.length)]).length = ps.length + 1 := by rw [List.length_append, List.length_take, List.length_singleton]; omega
    have S0 := st_start (N := N) (cc.new hq) rl
    rw [hln] at S0
    unfold fnM at p
    rw [if_pos hln] at p
    have xe : Xe ⟨nu, [], th⟩ ⟨nu, [], th⟩ H (upd H q (.tup (vs.drop ps.length))) := Xe.new hq
    have p2 := p.on xe
    exact ⟨_, d1.nox, ⟨_, _, g, S0, fn_post p2⟩⟩
/-- a def of the module with *rest -/
structure DfS (K : PySem.W.Frag) (mg : Str → Option Value) (x : Str) (st : Stmt) where
  f : Addr
  fd : FuncData
  fn : Fun K x x st f fd
  gl : mg x = some (.ref f)
end Ev

/-! Ev21: max(xs, default=None) of a list of ints -/
namespace Ev
open PySem PySem.Spec PyProof.Rows L2
def maxDF : List D → List Cell → Option D := fun ds _ => match ds with
  | [.lst xs] => match intsOf xs with
    | some (n :: ns) => some (.int (maxI n ns))
    | some [] => some .non
    | none => none
  | _ => none
theorem maxOf_int : ∀ (ns : List Int) (n : Int), PySem.W.maxOf n ns = maxI n ns
  | [], n => rfl
  | m :: ns, n => by
    have h := maxOf_int ns (max n m)
    show PySem.W.maxOf (if PySem.W.DatumOrd.lt n m = true then m else n) ns = maxI (max n m) ns
    rw [← h]
    congr 1
    show (if decide (n < m) = true then m else n) = max n m
    split
    · rename_i q; have := of_decide_eq_true q; omega
    · rename_i q; have : ¬ n < m := fun z => q (decide_eq_true z); omega
def rMaxK (K : PySem.W.Frag) : List V → List V → Hp → VK → Prop := fun vs zs H Q => ∃ (a : Addr) (ns : List Int), vs = [V.ref a] ∧ zs = [V.non] ∧ SqL K H a (ns.map V.int) ∧ (ns = [] → Q .non H) ∧ ∀ n r, ns = n :: r → Q (.int (maxI n r)) H
theorem cr_maxK {X : Cx} (hc : X.calm = true) (hu : X.A.units + 1 < cLine) : CallRK X (.builtin "max") [Str.ofString "default"] (rMaxK X.K) := by
  intro pins s σ H xs zs us ws Q I rx rz h
  obtain ⟨a, ns, rfl, rfl, hs, q0, q1⟩ := h
  obtain ⟨its, rv, hl, _⟩ := I.list hs
  rw [Vals.ref1 rx]
  cases rz with
  | cons r1 r2 =>
    cases r2
    cases r1
    refine PySem.W.max_list_datum_default (α := Int) (I.ok.hd hc) hl.isList (PySem.W.HoldAll.of_ints rv.ints) hu (fun e h' tk hk => ⟨.non, H, I.kept hk, rfl, q0 e⟩) fun y ys i v h' tk e hv hol hk => ?_
    obtain ⟨as, hr⟩ := hol
    rw [maxOf_int] at hr
    cases hr
    exact ⟨.int _, H, I.kept hk, ⟨_, rfl⟩, q1 y ys e⟩
theorem room_u {k : Nat} {A : Around} (hr : Room k A) : A.units + 1 < cLine := by have := hr.un; omega
section
variable {W : Wd} {E : XK} {X : Cx} {k : Nat} {mr : M (List D)} {a : Expr} {p1 pos kp q : Pos} {j : Nat}
theorem ev_maxK (hK : X.K = W.K) (hc : X.calm = true) (hu : X.A.units + 1 < cLine) (hg : Gl X "max") (hm : X.mg "max" = none) (ha : PA X [a] (tLs W E mr))
    (he : backTo pos (starEach [a] X.env) = (false, eval a X.env) :: backTo pos (starEach [] X.env) := by rfl) (hpl : (backTo pos (starEach [a] X.env)).any (·.1) = false := by rfl) :
    PE X (.Call (.Name "max" p1) [a] [⟨some "default", .Constant .none j q, kp⟩] pos) (tM W E (bltM maxDF mr)) := by
  refine weakE (pe_callBK (cr_maxK hc hu) hg hm bt_max ha (pk_cons pe_non pk_nil) (by decide) (by decide) he hpl) fun σ H Q ⟨F, e, g, S, p⟩ => ⟨F, e, g, S, (Post.bind p).mono fun ds g1 F1 H1 x1 c1 p1 vs rr => ?_⟩
  obtain ⟨d, hd, kk⟩ := post_of p1
  show rMaxK X.K vs [V.non] H1 _
  rw [hK]
  unfold maxDF at hd
  cases ds with
  | nil => cases hd
  | cons y ys =>
    cases ys with
    | cons z zs => cases y <;> cases hd
    | nil =>
      obtain ⟨v, rfl, rv⟩ := look1 rr
      cases y <;> try (cases hd; done)
      rename_i xs
      simp only at hd
      split at hd
      · rename_i n ns hn
        cases hd
        have hx := intsOf_eq hn
        obtain ⟨p, us, rfl, t, _, r⟩ := rv
        rw [hx] at r
        rw [r.ints] at t
        refine ⟨p, n :: ns, rfl, rfl, .of t, (fun z => nomatch z), fun n' r' e' => ?_⟩
        cases e'
        exact kk F1 H1 (.all fun _ _ h => h) c1 _ (rep_int _)
      · rename_i hn
        cases hd
        have hx := intsOf_eq hn
        obtain ⟨p, us, rfl, t, _, r⟩ := rv
        rw [hx] at r
        rw [r.ints] at t
        exact ⟨p, [], rfl, rfl, .of t, (fun _ => kk F1 H1 (.all fun _ _ h => h) c1 _ rfl), fun n' r' e' => nomatch e'⟩
      · cases hd
end
end Ev

/-! Ev22: a, b, c = [], y, z: the first a list of one's own. -/
namespace Ev
open PySem PySem.Spec PyProof.Rows L2
section
variable {W : Wd} {E : XK} {X : Cx} {a b c : Expr} {mr : M (List D)} {mb mc : M D} {x y z : Str} {p1 p2 p3 pt pt2 pos : Pos} {kt k2 : Nat}
def par3F (i j l : Nat) (m1 : M (List D)) (m2 m3 : M D) : MS := fun e g => (m1 e g).toS fun x g1 => (m2 e g1).toS fun y g2 => (m3 e g2).toS fun z g3 => .nx (((e.set i (.own x)).set j (.v y)).set l (.v z)) g3
theorem es_par3F {i j l : Nat} (hc : X.calm = true) (hN : X.N.Nodup) (h1 : PE X a (tF W E mr)) (h2 : PE X b (tM W E mb)) (h3 : PE X c (tM W E mc)) (hi : X.N[i]? = some x := by rfl) (hj : X.N[j]? = some y := by rfl) (hl : X.N[l]? = some z := by rfl) (hij : i ≠ j := by decide) (hil : i ≠ l := by decide) (hjl : j ≠ l := by decide)
    (hx : X.env.scope.names.lookup x = some .local := by rfl) (hy : X.env.scope.names.lookup y = some .local := by rfl) (hz : X.env.scope.names.lookup z = some .local := by rfl)
    (hs1 : starEach [a, b, c] X.env = (false, eval a X.env) :: starEach [b, c] X.env := by rfl) (hs2 : starEach [b, c] X.env = (false, eval b X.env) :: starEach [c] X.env := by rfl) (hs3 : starEach [c] X.env = (false, eval c X.env) :: starEach [] X.env := by rfl)
    (hw : swappedStores [.Tuple [.Name x p1, .Name y p2, .Name z p3] kt pt] (.Tuple [a, b, c] k2 pt2) X.env = pure (some [x, y, z]) := by rfl)
    (hs : swapsWithSole [.Tuple [.Name x p1, .Name y p2, .Name z p3] kt pt] (.Tuple [a, b, c] k2 pt2) pos.line X.env = pure false := by rfl) :
    PS X (.Assign [.Tuple [.Name x p1, .Name y p2, .Name z p3] kt pt] (.Tuple [a, b, c] k2 pt2) pos) (tMS W E (par3F i j l mr mb mc)) := weakS (ps_par3 hc hN hi hj hl hij hil hjl hx hy hz (pa_cons h1 (pa_cons h2 (pa_cons h3 pa_nil hs3) hs2) hs1) hw hs) fun D0 σ H ⟨F, e, g, S, p⟩ => by
  refine ⟨F, e, g, S, p.toS.mono fun ds g1 F1 H1 x1 c1 k1 q vs nq r => ?_⟩
  have S1 := (S.step x1 c1)
  have nop : ∀ (j : Nat) (fs : List D), e[j]? = some (Slot.own fs) → σ[j]? ≠ some (some (V.ref q)) := fun j fs h z => by
    obtain ⟨l, ws, z1, z2, z3, _⟩ := S1.owns j fs h
    rw [z] at z1
    cases z1
    rw [nq] at z3; cases z3
  refine ⟨_, e, g1, S1.lay nq, (k1.on (Xs.own nq)).toS.mono fun d2 g2 F2 H2 x2 c2 k2 u r2 => ?_⟩
  have S2 := (S1.lay (o := .lst vs) nq).step x2 c2
  refine ⟨F2, e, g2, S2, k2.toS.mono fun d3 g3 F3 H3 x3 c3 k3 w r3 => ?_⟩
  have S3 := S2.step x3 c3
  have hq2 : q ∈ F2.om := by rw [x2.om]; exact List.mem_cons_self
  have hq : q ∈ F3.om := by rw [x3.om]; exact hq2
  have hl2 : H2 q = some (.lst vs) := x2.keep _ _ upd_same fun z => (c1.none nq) (.inr (.inr z))
  have hl : H3 q = some (.lst vs) := x3.keep _ _ hl2 fun z => (c2.dj q z).2 hq2
  exact ⟨_, u, w, rfl, k3 F3 _ H3 .refl (((S3.adopt hq hl (((r.up (Up.own nq)).up x2.up).up x3.up) nop i).put (r2.up x3.up) j).put r3 l)⟩
end
end Ev

/-! Ev23: x is y of two bools -/
namespace Ev
open PySem PySem.Spec PyProof.Rows L2
def isBD : D → D → List Cell → Option D := fun x y _ => match x, y with
  | .bl a, .bl b => some (.bl (a == b))
  | _, _ => none
def notBD : D → D → List Cell → Option D := fun x y _ => match x, y with
  | .bl a, .bl b => some (.bl (!(a == b)))
  | _, _ => none
section
variable {X : Cx} {W : Wd}
theorem op_isB : OpR X (compareOp .Is) (fun x y H Q => ∃ a b, x = .bl a ∧ y = .bl b ∧ Q (.bl (a == b)) H) := by
  intro pins s σ H x y v u Q I rx ry h
  obtain ⟨a, b, rfl, rfl, q⟩ := h
  cases rx
  cases ry
  show wpAny _ _ ((isSame (Value.bool a) (Value.bool b)) >>= fun z => pure (Value.bool z)) _ _ s
  exact wpAny_bind (wpAny_pure (wpAny_pure (fin_bl I q (by cases a <;> cases b <;> first | rfl | decide | kernel_rfl))))
theorem op_notB : OpR X (compareOp .IsNot) (fun x y H Q => ∃ a b, x = .bl a ∧ y = .bl b ∧ Q (.bl (!(a == b))) H) := by
  intro pins s σ H x y v u Q I rx ry h
  obtain ⟨a, b, rfl, rfl, q⟩ := h
  cases rx
  cases ry
  show wpAny _ _ ((isSame (Value.bool a) (Value.bool b)) >>= fun z => pure (Value.bool (!z))) _ _ s
  exact wpAny_bind (wpAny_pure (wpAny_pure (fin_bl I q (by cases a <;> cases b <;> first | rfl | decide | kernel_rfl))))
theorem rf_isB : RF W isBD (fun x y H Q => ∃ a b, x = .bl a ∧ y = .bl b ∧ Q (.bl (a == b)) H) := by
  intro F H g x y d v u Q c rx ry e k
  cases x <;> try (cases e; done)
  cases y <;> try (cases e; done)
  cases e
  cases (rx : v = _)
  cases (ry : u = _)
  exact ⟨_, _, rfl, rfl, k H _ (fun _ _ h => h) c (rep_bl _)⟩
theorem rf_notB : RF W notBD (fun x y H Q => ∃ a b, x = .bl a ∧ y = .bl b ∧ Q (.bl (!(a == b))) H) := by
  intro F H g x y d v u Q c rx ry e k
  cases x <;> try (cases e; done)
  cases y <;> try (cases e; done)
  cases e
  cases (rx : v = _)
  cases (ry : u = _)
  exact ⟨_, _, rfl, rfl, k H _ (fun _ _ h => h) c (rep_bl _)⟩
theorem c_isB : CmpOk W X .Is isBD := ⟨⟨_, op_isB, rf_isB⟩, fun x y g d h => by cases x <;> cases y <;> cases h <;> exact ⟨_, rfl⟩, by decide⟩
theorem c_notB : CmpOk W X .IsNot notBD := ⟨⟨_, op_notB, rf_notB⟩, fun x y g d h => by cases x <;> cases y <;> cases h <;> exact ⟨_, rfl⟩, by decide⟩
end
end Ev

/-! Ev24: two own lists at once; pops into targets; list.index; range of three; sorted ints; list(range). -/
namespace Ev
open PySem PySem.Spec PyProof.Rows L2
section
variable {W : Wd} {E : XK} {X : Cx} {a b c : Expr} {mr mr2 : M (List D)} {ma mb mc : M D} {x y z : Str} {p1 p2 p3 pt pt2 pos : Pos} {kt k2 : Nat}
/-- a, b = [], [] -/
def parFF (i j : Nat) (m1 m2 : M (List D)) : MS := fun e g => (m1 e g).toS fun x g1 => (m2 e g1).toS fun y g2 => .nx ((e.set i (.own x)).set j (.own y)) g2
theorem es_parFF {i j : Nat} (hc : X.calm = true) (hN : X.N.Nodup) (h1 : PE X a (tF W E mr)) (h2 : PE X b (tF W E mr2)) (hi : X.N[i]? = some x := by rfl) (hj : X.N[j]? = some y := by rfl) (hij : i ≠ j := by decide)
    (hx : X.env.scope.names.lookup x = some .local := by rfl) (hy : X.env.scope.names.lookup y = some .local := by rfl) (hs1 : starEach [a, b] X.env = (false, eval a X.env) :: starEach [b] X.env := by rfl) (hs2 : starEach [b] X.env = (false, eval b X.env) :: starEach [] X.env := by rfl)
    (hw : swappedStores [.Tuple [.Name x p1, .Name y p2] kt pt] (.Tuple [a, b] k2 pt2) X.env = pure (some [x, y]) := by rfl)
    (hs : swapsWithSole [.Tuple [.Name x p1, .Name y p2] kt pt] (.Tuple [a, b] k2 pt2) pos.line X.env = pure false := by rfl) :
    PS X (.Assign [.Tuple [.Name x p1, .Name y p2] kt pt] (.Tuple [a, b] k2 pt2) pos) (tMS W E (parFF i j mr mr2)) := weakS (ps_par hc hN hi hj hij hx hy (pa_cons h1 (pa_cons h2 pa_nil hs2) hs1) hw hs) fun D0 σ H ⟨F, e, g, S, p⟩ => by
  refine ⟨F, e, g, S, p.toS.mono fun ds g1 F1 H1 x1 c1 k1 q vs nq r => ?_⟩
  have S1 := (S.step x1 c1)
  have nop : ∀ (j : Nat) (fs : List D), e[j]? = some (Slot.own fs) → σ[j]? ≠ some (some (V.ref q)) := fun j fs h z => by
    obtain ⟨l, ws, z1, z2, z3, _⟩ := S1.owns j fs h
    rw [z] at z1
    cases z1
    rw [nq] at z3; cases z3
  refine ⟨_, e, g1, S1.lay nq, (k1.on (Xs.own nq)).toS.mono fun ds2 g2 F2 H2 x2 c2 k2 q2 vs2 nq2 r2 => ?_⟩
  have S2 := (S1.lay (o := .lst vs) nq).step x2 c2
  have hq : q ∈ F2.om := by rw [x2.om]; exact List.mem_cons_self
  have hl : H2 q = some (.lst vs) := x2.keep _ _ upd_same fun z => (c1.none nq) (.inr (.inr z))
  exact ⟨_, _, rfl, k2 _ _ _ (Xs.own nq2) ((S2.adopt hq hl ((r.up (Up.own nq)).up x2.up) nop i).putO nq2 r2 j)⟩
/-- a, b = x, [] where a name is a cell: a pair is made -/
def asgTF (i j : Nat) (m1 : M D) (m2 : M (List D)) : MS := fun e g => (m1 e g).toS fun x g1 => (m2 e g1).toS fun y g2 => .nx ((e.set i (.v x)).set j (.own y)) g2
theorem es_asgTF {i j : Nat} (hK : X.K = W.K) (hc : X.calm = true) (hN : X.N.Nodup) (h1 : PE X a (tM W E ma)) (h2 : PE X b (tF W E mr)) (hi : X.N[i]? = some x := by rfl) (hj : X.N[j]? = some y := by rfl)
    (hx : Loc X.env.scope x := by first | exact Or.inl rfl | exact Or.inr rfl) (hy : Loc X.env.scope y := by first | exact Or.inl rfl | exact Or.inr rfl)
    (hfx : X.fn x = true ∨ X.env.scope.names.lookup x = some .local := by first | exact .inl rfl | exact .inr rfl | assumption) (hfy : X.fn y = true ∨ X.env.scope.names.lookup y = some .local := by first | exact .inl rfl | exact .inr rfl | assumption)
    (hs1 : starEach [a, b] X.env = (false, eval a X.env) :: starEach [b] X.env := by rfl) (hs2 : starEach [b] X.env = (false, eval b X.env) :: starEach [] X.env := by rfl)
    (ht1 : (assignEach [.Name x p1, .Name y p2] X.env).map (·.2) = assign (.Name x p1) X.env :: (assignEach [.Name y p2] X.env).map (·.2) := by rfl) (ht2 : (assignEach [.Name y p2] X.env).map (·.2) = assign (.Name y p2) X.env :: (assignEach [] X.env).map (·.2) := by rfl)
    (hn : (assignEach [.Name x p1, .Name y p2] X.env).length = 2 := by rfl) (hst : (assignEach [.Name x p1, .Name y p2] X.env).findIdx? (·.1) = none := by rfl)
    (hs : swapsWithSole [.Tuple [.Name x p1, .Name y p2] kt pt] (.Tuple [a, b] k2 pt2) pos.line X.env = pure false := by rfl) (hw : swappedStores [.Tuple [.Name x p1, .Name y p2] kt pt] (.Tuple [a, b] k2 pt2) X.env = pure none := by rfl)
    (hz : (assignEach [.Tuple [.Name x p1, .Name y p2] kt pt] X.env).map (·.2) = [assign (.Tuple [.Name x p1, .Name y p2] kt pt) X.env] := by rfl) :
    PS X (.Assign [.Tuple [.Name x p1, .Name y p2] kt pt] (.Tuple [a, b] k2 pt2) pos) (tMS W E (asgTF i j ma mr)) :=
  weakS (ps_asg (pe_tup (pa_cons h1 (pa_cons h2 pa_nil hs2) hs1)) (pg_tup hc (pgs_cons (pg_name hN hi hx hfx) (pgs_cons (pg_name hN hj hy hfy) pgs_nil ht2) ht1) hn hst) hs hw hz) fun D0 σ H ⟨F, e, g, S, p⟩ => by
  refine ⟨F, e, g, S, p.toS.mono fun d g1 F1 H1 x1 c1 k1 v r => ?_⟩
  refine ⟨F1, e, g1, S.step x1 c1, k1.toS.mono fun ds g2 F2 H2 x2 c2 k2 q vs nq r2 => ?_⟩
  refine ⟨by rw [sizeLine_eq]; show 2 ≤ 16777216; decide, fun q2 nq2 => ?_⟩
  have S3 := (((S.step x1 c1).step x2 c2).put (r.up x2.up) i).putO nq r2 j
  refine ⟨q2, _, rfl, by rw [hK]; exact .inl (.inl upd_same), rfl, _, _, rfl, _, _, rfl, rfl, ?_⟩
  exact k2 _ _ _ ((Xs.own nq).trans (Xe.new nq2).xs) (S3.step (Xe.new nq2) (S3.cells.new nq2))
/-- targets = xs.pop() -/
def popT (i : Nat) (f : D → Env → Option Env) : MS := fun e g => match e[i]? with
  | some (.own ds) => match ds[ds.length - 1]? with
    | some d => match f d (e.set i (.own ds.dropLast)) with
      | some e1 => .nx e1 g
      | none => .bad
    | none => .bad
  | _ => .bad
theorem es_popT {i : Nat} {tg : Expr} {f : D → Env → Option Env} {v1 : List Nat} (h0 : PE X a (tBM0 X.K "list" rPop (tVar i))) (hg : PG X tg (tG W f v1)) (hs : swapsWithSole [tg] a pos.line X.env = pure false := by rfl) (hw : swappedStores [tg] a X.env = pure none := by rfl)
    (h1 : (assignEach [tg] X.env).map (·.2) = [assign tg X.env] := by rfl) : PS X (.Assign [tg] a pos) (tMS W E (popT i f)) := weakS (ps_asg h0 hg hs hw h1) fun D0 σ H ⟨F, e, g, S, p⟩ => by
  unfold popT at p
  cases q : e[i]? with
  | none => rw [q] at p; exact p.elim
  | some sl =>
    rw [q] at p
    cases sl with
    | no => exact p.elim
    | v d => exact p.elim
    | own ds =>
      obtain ⟨l, vs, h1, h2, h3, h4⟩ := S.owns i ds q
      simp only at p
      cases q2 : ds[ds.length - 1]? with
      | none => rw [q2] at p; exact p.elim
      | some d =>
        rw [q2] at p
        simp only at p
        cases q3 : f d (e.set i (.own ds.dropLast)) with
        | none => rw [q3] at p; exact p.elim
        | some e1 =>
          rw [q3] at p
          obtain ⟨v, k1, k2⟩ := h4.get q2
          refine ⟨_, h1, ty_list h3, l, vs, v, rfl, rfl, h3, by rw [← h4.length]; exact k1, ?_⟩
          obtain ⟨xs, S2⟩ := S.wr q h1 h4.dropLast
          exact ⟨F, _, g, d, e1, S2, k2.up (Up.wr (.inr (.inl h2))), q3, fun σ' S' _ => p F _ _ xs S'⟩
/-! ### range of three -/
def rgcB (i j k : Int) : Bool := decide (k ≠ 0) && decide (k.natAbs < 1073741824) && Builtin.Range.small i j k
def rngC (i k : Int) (n : Nat) : List D := (List.range n).map fun t => .int (i + (t : Nat) * k)
theorem rngC_length (i k : Int) (n : Nat) : (rngC i k n).length = n := by unfold rngC; rw [List.length_map, List.length_range]
theorem rngC_ok {F : Fb} {H : Hp} (lo c : Int) (n : Nat) : ItOk W F H (Itc lo c n) (rngC lo c n) := by
  refine ⟨fun _ => True, _, by rw [rngC_length]; exact walk_rangeC, fun _ _ _ => trivial, ?_⟩
  intro i H2 u H3 F2 g2 hi x c2 ⟨e1, y⟩
  have hn : i < n := by rwa [rngC_length] at hi
  refine ⟨.int (lo + (i : Nat) * c), by simp [rngC, hn], ?_, fun _ _ h => by rw [e1]; exact h⟩
  rw [y]; exact rep_int _
def rng3It (m : M (List D)) : M (List D) := fun e g => (m e g).bind fun ds g1 => match ds with
  | [.int i, .int j, .int k] => if rgcB i j k = true ∧ 0 ≤ Builtin.Range.rangeSize i j k then .ok (rngC i k (Builtin.Range.rangeSize i j k).toNat) g1 else .bad
  | _ => .bad
theorem look3 {F : Fb} {H : Hp} {d e f : D} {vs : List V} (h : LookL W F H [d, e, f] vs) : ∃ v u w, vs = [v, u, w] ∧ Look W F H d v ∧ Look W F H e u ∧ Look W F H f w := by
  obtain ⟨v, r, rfl, h1, h2⟩ := h
  obtain ⟨u, w, rfl, h3, h4⟩ := look2 h2
  exact ⟨v, u, w, rfl, h1, h3, h4⟩
theorem ei_range3 {tg : Expr} (hg : Gl X "range") (hm : X.mg "range" = none) (ha : PA X [a, b, c] (tLs W E mr)) (hs : starEach [a, b, c] X.env = (false, eval a X.env) :: starEach [b, c] X.env := by rfl) (hpl : (backTo pos (starEach [b, c] X.env)).any (·.1) = false := by rfl) :
    PI X tg (.Call (.Name "range" p1) [a, b, c] [] pos) (tIt W E (rng3It mr)) :=
  weakI (pi_range3 hg hm ha hs hpl) fun σ H R ⟨F, e, g, S, p⟩ => by
    refine ⟨F, e, g, S, (Post.bind p).mono fun ds g1 F1 H1 x1 c1 k vs r => ?_⟩
    cases ds with
    | nil => exact k.elim
    | cons d ds =>
      cases ds with
      | nil => cases d <;> exact k.elim
      | cons d2 ds =>
        cases ds with
        | nil => cases d <;> cases d2 <;> exact k.elim
        | cons d3 ds =>
          cases ds with
          | cons _ _ => cases d <;> cases d2 <;> cases d3 <;> exact k.elim
          | nil =>
            obtain ⟨v, u, w, rfl, rv, ru, rw'⟩ := look3 r
            cases d <;> try exact k.elim
            cases d2 <;> try exact k.elim
            cases d3 <;> try exact k.elim
            rename_i i j l
            simp only at k
            split at k
            · rename_i hb
              obtain ⟨hb, hn⟩ := hb
              cases (show v = .int i from rv)
              cases (show u = .int j from ru)
              cases (show w = .int l from rw')
              unfold rgcB at hb
              rw [Bool.and_eq_true, Bool.and_eq_true, decide_eq_true_iff, decide_eq_true_iff] at hb
              exact ⟨i, j, l, (Builtin.Range.rangeSize i j l).toNat, rfl, ⟨hb.1.1, hb.1.2, hb.2, by omega⟩, k F1 H1 .refl c1 _ (rngC_ok i l _)⟩
            · exact k.elim
/-! ### sorted ints -/
def insI (n : Int) : List Int → List Int
  | [] => [n]
  | m :: ms => if n ≤ m then n :: m :: ms else m :: insI n ms
def srtI : List Int → List Int
  | [] => []
  | n :: ns => insI n (srtI ns)
theorem insI_perm (n : Int) : ∀ ns : List Int, (insI n ns).Perm (n :: ns)
  | [] => .refl _
  | m :: ms => by
    unfold insI
    split
    · exact .refl _
    · exact (List.Perm.cons m (insI_perm n ms)).trans (List.Perm.swap n m ms)
theorem srtI_perm : ∀ ns : List Int, (srtI ns).Perm ns
  | [] => .refl _
  | n :: ns => (insI_perm n (srtI ns)).trans (List.Perm.cons n (srtI_perm ns))
theorem insI_up (n : Int) : ∀ ns : List Int, ns.Pairwise (· ≤ ·) → (insI n ns).Pairwise (· ≤ ·)
  | [], _ => by simp [insI]
  | m :: ms, h => by
    have h1 := List.pairwise_cons.mp h
    unfold insI
    split
    · rename_i q
      refine List.pairwise_cons.mpr ⟨fun x hx => ?_, h⟩
      rcases List.mem_cons.mp hx with rfl | hx
      · exact q
      · exact Int.le_trans q (h1.1 x hx)
    · rename_i q
      refine List.pairwise_cons.mpr ⟨fun x hx => ?_, insI_up n ms h1.2⟩
      rcases List.mem_cons.mp ((insI_perm n ms).mem_iff.mp hx) with rfl | hx
      · omega
      · exact h1.1 x hx
theorem srtI_up : ∀ ns : List Int, (srtI ns).Pairwise (· ≤ ·)
  | [] => .nil
  | n :: ns => insI_up n _ (srtI_up ns)
theorem up_uniq : ∀ {ns ms : List Int}, ns.Perm ms → ns.Pairwise (· ≤ ·) → ms.Pairwise (· ≤ ·) → ns = ms
  | [], ms, p, _, _ => (List.nil_perm.mp p).symm
  | n :: ns, [], p, _, _ => absurd p (by intro z; have := z.length_eq; simp at this)
  | n :: ns, m :: ms, p, h, k => by
    have h1 := List.pairwise_cons.mp h
    have k1 := List.pairwise_cons.mp k
    have a : n ≤ m := by
      rcases List.mem_cons.mp (p.mem_iff.mpr (List.mem_cons_self ..) : m ∈ n :: ns) with q | q
      · omega
      · exact h1.1 m q
    have b : m ≤ n := by
      rcases List.mem_cons.mp (p.mem_iff.mp (List.mem_cons_self ..) : n ∈ m :: ms) with q | q
      · omega
      · exact k1.1 n q
    have e : n = m := by omega
    subst e
    rw [up_uniq (List.Perm.cons_inv p) h1.2 k1.2]
/-- sorted(xs), ints: a new list -/
def srtM (m : M (List D)) : M (List D) := fun e g => (m e g).bind fun ds g1 => match ds with
  | [.lst xs] => match intsOf xs with
    | some ns => .ok ((srtI ns).map .int) g1
    | none => .bad
  | _ => .bad
theorem bt_sorted : bootBuiltins "sorted" = some (.builtin "sorted") := by decide +kernel
theorem ev_sorted (hK : X.K = W.K) (hg : Gl X x) (hm : X.mg x = none) (hv : bootBuiltins x = some (.builtin "sorted")) (ha : PA X [a] (tLs W E mr)) (hn : x ≠ "__name__" := by decide) (hdb : (x == ("__debug__" : Str)) = false := by decide)
    (he : starEach [a] X.env = (false, eval a X.env) :: starEach [] X.env := by rfl) (hpl : (backTo pos (starEach [] X.env)).any (·.1) = false := by rfl) : PE X (.Call (.Name x p1) [a] [] pos) (tF W E (srtM mr)) :=
  weakE (pe_callB cr_sortedI hg hm hv ha hn hdb he hpl) fun σ H Q ⟨F, e, g, S, p⟩ => by
    refine ⟨F, e, g, S, (Post.bind p).mono fun ds g1 F1 H1 x1 c1 p1 vs rr => ?_⟩
    cases ds with
    | nil => exact p1.elim
    | cons y ys =>
      cases ys with
      | cons _ _ => cases y <;> exact p1.elim
      | nil =>
        obtain ⟨v, rfl, rv⟩ := look1 rr
        cases y <;> try exact p1.elim
        rename_i xs
        simp only at p1
        cases q : intsOf xs with
        | none => rw [q] at p1; exact p1.elim
        | some ns =>
          rw [q] at p1
          obtain ⟨q2, us, rfl, t, _, r⟩ := rv
          rw [intsOf_eq q] at r
          cases r.ints
          refine ⟨q2, ns, rfl, .inl (.of t), fun ns' l pm up nl => ?_⟩
          rw [up_uniq (pm.trans (srtI_perm ns).symm) up (srtI_up ns)]
          exact p1 F1 H1 .refl c1 l _ nl (RepL.of_ints _)
/-- list(range(a, b)): a new list -/
def lrgM (m1 m2 : M D) : M (List D) := fun e g => (m1 e g).bind fun x g1 => (m2 e g1).bind fun y g2 => match x, y with
  | .int i, .int j => if (-4611686018427387904 ≤ i ∧ i < 4611686018427387904) ∧ (-4611686018427387904 ≤ j ∧ j < 4611686018427387904) ∧ (j - i).toNat ≤ 16777216 then .ok (rngL i (j - i).toNat) g2 else .bad
  | _, _ => .bad
theorem ev_listR {pp : Pos} (hc : X.calm = true) (hg : Gl X "list") (hm : X.mg "list" = none) (hg2 : Gl X "range") (hm2 : X.mg "range" = none) (ha : PE X a (tM W E ma)) (hb : PE X b (tM W E mb)) (na : starEach [a, b] X.env = (false, eval a X.env) :: starEach [b] X.env := by rfl)
    (nb : starEach [b] X.env = (false, eval b X.env) :: starEach [] X.env := by rfl) (hp : (backTo pos (starEach [b] X.env)).any (·.1) = false := by rfl)
    (nr : starEach [.Call (.Name "range" p1) [a, b] [] pos] X.env = (false, eval (.Call (.Name "range" p1) [a, b] [] pos) X.env) :: starEach [] X.env := by rfl) : PE X (.Call (.Name "list" p2) [.Call (.Name "range" p1) [a, b] [] pos] [] pp) (tF W E (lrgM ma mb)) :=
  weakE (pe_listRg hc hg hm (prg_2 hg2 hm2 ha hb na nb hp) nr) fun σ H Q ⟨F, e, g, S, p⟩ => by
    refine ⟨F, e, g, S, (Post.bind p).mono fun d g1 F1 H1 x1 c1 p1 v r => ?_⟩
    refine ⟨F1, e, g1, S.step x1 c1, (Post.bind p1).mono fun d2 g2 F2 H2 x2 c2 k2 u r2 => ?_⟩
    cases d <;> try (cases d2 <;> exact k2.elim)
    cases d2 <;> try exact k2.elim
    rename_i i j
    simp only at k2
    split at k2
    · rename_i hb
      cases (show v = .int i from r)
      cases (show u = .int j from r2)
      refine ⟨i, j, rfl, rfl, ⟨by omega, by omega, by omega, by omega, by omega⟩, fun q nq => ?_⟩
      refine k2 F2 H2 .refl c2 q _ nq ?_
      unfold rngL rgV
      have : ∀ ks : List Nat, RepL W F2 H2 (ks.map fun t => D.int (i + (t : Nat))) (ks.map fun t => V.int (i + (t : Nat))) := fun ks => by
        induction ks with
        | nil => rfl
        | cons k ks ih => exact ⟨_, _, rfl, rfl, ih⟩
      exact this _
    · exact k2.elim
/-! ### list.index -/
def idxM (m1 m2 : M D) : M D := fun e g => (m1 e g).bind fun x g1 => match x with
  | .lst ds => (m2 e g1).bind fun y g2 => if flatD y = true ∧ ds.all flatD = true then R.of (((ds.map toV).findIdx? fun z => eqV z (toV y)).map fun j => D.int (j : Nat)) g2 else .bad
  | _ => .bad
theorem ev_index {ap : Pos} (hK : X.K = W.K) (ha : PE X a (tS W E ma)) (hb : PE X b (tM W E mb)) (hba : attributeBase a "index" X.env (eval a X.env) = eval a X.env := by rfl)
    (hfew : ((backTo pos (starEach [b] X.env)).all (fun x => !x.1) && (backToKw pos (keywordEach [] X.env)).all (fun x => x.1.isSome)
      && decide (([b] : List Expr).length + ([] : List Keyword).length + (if ([] : List Keyword).isEmpty then 0 else 1) < 30)) = true := by rfl)
    (hline : (ap.endLine == pos.line) = true := by rfl) (hs : starEach [b] X.env = (false, eval b X.env) :: starEach [] X.env := by rfl) (hplain : (backTo pos (starEach [] X.env)).any (·.1) = false := by rfl) :
    PE X (.Call (.Attribute a "index" ap) [b] [] pos) (tM W E (idxM ma mb)) :=
  weakE (pe_bm PySem.F.plainAttrs_list PySem.F.slot_list_index PySem.F.type_list_index mt_index ha (pa_cons hb pa_nil hs) hba hfew hline hs hplain) fun σ H Q ⟨F, e, g, S, p⟩ => by
    refine ⟨F, e, g, S, (Post.bind p).mono fun x g1 F1 H1 x1 c1 p1 v r1 => ?_⟩
    cases x <;> try exact p1.elim
    rename_i ds
    obtain ⟨q, us, rfl, t, nt, r⟩ := r1
    refine ⟨ty_list t, F1, e, g1, S.step x1 c1, (Post.bind p1).mono fun y g2 F2 H2 x2 c2 k2 u r2 => ?_⟩
    split at k2
    · rename_i hf
      obtain ⟨e2, f2⟩ := flat_of r2 hf.1
      obtain ⟨e3, f3⟩ := flats_of (r.up x2.up) hf.2
      cases hq : (ds.map toV).findIdx? (fun z => eqV z (toV y)) with
      | none => rw [hq] at k2; exact k2.elim
      | some j =>
        rw [hq] at k2
        rw [← e2, ← e3] at hq
        obtain ⟨hj, hz, hno⟩ := List.findIdx?_eq_some_iff_getElem.mp hq
        refine ⟨q, us, u, j, us[j], rfl, rfl, .inl (.of (x2.keep _ _ t nt)), f2, f3, List.getElem?_eq_getElem hj, hz, fun m z' hm hz' => ?_, k2 F2 H2 .refl c2 _ rfl⟩
        have := hno m hm
        rw [List.getElem?_eq_getElem (by omega)] at hz'
        cases hz'
        simpa using this
    · exact k2.elim
end
end Ev

/-! Ev25: a tuple times a small number. -/
namespace Ev
open PySem PySem.Spec PyProof.Rows L2
abbrev tupO (d : Option Addr) (its : Array Value) (n : Nat) (ss : Array (Option Value)) : Obj := { cls := .type "tuple", dict := d, data := .seq its n, slots := ss }
theorem tmul_one (a : Addr) (its : Array Value) (n : Nat) (d : Option Addr) (ss : Array (Option Value)) (t : Tok) :
    Meets (Builtin.«tuple.__mul__» ⟨[.ref a, .int 1 t], []⟩) (fun _ R s => s.heap.get? a = some (tupO d its n ss) ∧ R (.ok (.ret (.ref a))) s) :=
  .of_wp fun prog w A R s z => by
    obtain ⟨hp, gs, dr, tk, os⟩ := s
    obtain ⟨z0, z1⟩ := z
    have f1 := AutoSeq1.idx_int
    wp_walk using wpAny_loadPart' z0
    exact ⟨_, rfl, z1⟩
theorem tmul_none (a : Addr) (its : Array Value) (n : Nat) (d : Option Addr) (ss : Array (Option Value)) (k : Int) (t : Tok) (k0 : k ≤ 0) (k1 : -1000 ≤ k) (hi : its.isEmpty = false) :
    Meets (Builtin.«tuple.__mul__» ⟨[.ref a, .int k t], []⟩) (fun _ R s => s.heap.get? a = some (tupO d its n ss) ∧
      R (.ok (.ret (.ref s.heap.objs.size))) { s with heap := s.heap.push { cls := .type "tuple", data := .seq #[] }, toks := s.toks }) :=
  .of_wp fun prog w A R s z => by
    obtain ⟨hp, gs, dr, tk, os⟩ := s
    obtain ⟨z0, z1⟩ := z
    have f1 := AutoSeq1.idx_int
    have q0 : ¬ (decide (k < -2 ^ 63) || decide (k ≥ 2 ^ 63)) = true := by rw [decide_eq_false (by omega), decide_eq_false (by omega)]; decide
    have q1 : ¬ (its.isEmpty || k == 1) = true := by rw [hi, Bool.false_or, beq_eq_false_iff_ne.mpr (by omega)]; decide
    have q2 : (decide (k ≤ 0) || its.isEmpty) = true := by rw [decide_eq_true k0]; rfl
    wp_walk using wpAny_loadPart' z0
    refine wpAny_ite_false (decide_eq_false q0) ?_
    wp_walk using wpAny_loadPart' z0
    refine wpAny_ite_false (decide_eq_false q1) ?_
    wp_walk using wpAny_loadPart' z0
    try (refine wpAny_ite_true (decide_eq_true q2) ?_; wp_walk using wpAny_loadPart' z0)
    exact ⟨_, rfl, z1⟩
def rRep1 (K : PySem.W.Frag) : R2 := fun x y H Q => ∃ l xs, x = .ref l ∧ y = .int 1 ∧ SqT K H l xs ∧ Q (.ref l) H
def rRep0 (K : PySem.W.Frag) : R2 := fun x y H Q => ∃ l k xs, x = .ref l ∧ y = .int k ∧ SqT K H l xs ∧ xs ≠ [] ∧ k ≤ 0 ∧ -1000 ≤ k ∧ ∀ p, H p = none → Q (.ref p) (upd H p (.tup []))
section
variable {X : Cx}
theorem op_rep1 : OpR X (binaryOp .Mult) (rRep1 X.K) := by
  intro pins s σ H x y v u Q I rx ry h
  obtain ⟨l, xs, rfl, rfl, hT, q⟩ := h
  cases rx
  obtain ⟨t, rfl⟩ := ry
  obtain ⟨its, r, ⟨⟨cls, dd, data, sl⟩, ho, hc, n, hd⟩, hs⟩ := I.tuple hT
  simp only at hc hd
  subst hc hd
  refine wpAny_binaryOp_repeat_ref (U := "int") (T := "tuple") (by decide) ⟨_, ho, rfl⟩ (fun z => typeIs_int z _ t) noFill_tuple_mul F.fills_int_mul
    F.slot_int_rmul repeat_tuple F.slot_int_index.lookup (call_meets F.slot_int_rmul (typeIs_int s _ t) F.entry_int_rmul (F.args_int_rmul_2 _ _)
      (int_rmul_tuple _ t l its.toArray n dd sl) ⟨ho, rfl, ⟨_, ho, rfl⟩, ?_⟩)
  exact call_meets F.slot_tuple_mul ⟨_, ho, rfl⟩ F.entry_tuple_mul
    (F.args_tuple_mul_2 _ _) (tmul_one l its.toArray n dd sl t) ⟨ho, ⟨.ref l, H, I, rfl, q⟩⟩
theorem op_rep0 : OpR X (binaryOp .Mult) (rRep0 X.K) := by
  intro pins s σ H x y v u Q I rx ry h
  obtain ⟨l, k, xs, rfl, rfl, hT, hne, k0, k1, q⟩ := h
  cases rx
  obtain ⟨t, rfl⟩ := ry
  obtain ⟨its, r, ⟨⟨cls, dd, data, sl⟩, ho, hc, n, hd⟩, hs⟩ := I.tuple hT
  simp only at hc hd
  subst hc hd
  have hi : its.toArray.isEmpty = false := by
    cases its with
    | nil => exact absurd (List.eq_nil_of_length_eq_zero r.length) hne
    | cons a b => rfl
  refine wpAny_binaryOp_repeat_ref (U := "int") (T := "tuple") (by decide) ⟨_, ho, rfl⟩ (fun z => typeIs_int z _ t) noFill_tuple_mul F.fills_int_mul
    F.slot_int_rmul repeat_tuple F.slot_int_index.lookup (call_meets F.slot_int_rmul (typeIs_int s _ t) F.entry_int_rmul (F.args_int_rmul_2 _ _)
      (int_rmul_tuple _ t l its.toArray n dd sl) ⟨ho, rfl, ⟨_, ho, rfl⟩, ?_⟩)
  exact call_meets F.slot_tuple_mul ⟨_, ho, rfl⟩ F.entry_tuple_mul
    (F.args_tuple_mul_2 _ _) (tmul_none l its.toArray n dd sl k t k0 k1 hi)
    ⟨ho, ⟨.ref s.heap.objs.size, _, I.laid (t' := s.toks) (o := .tup []) (fun b ob q => Heap.get?_push_of_some _ q) (Nat.le_refl _) ⟨by decide, _, .nil, IsTup.new _ _⟩, rfl, q _ (I.hok.fresh (Nat.le_refl _))⟩⟩
end
def mulTD : D → D → List Cell → Option D := fun x y _ => match x, y with
  | .tup xs, .int k => if 0 < xs.length ∧ -1000 ≤ k ∧ k ≤ 1000 ∧ xs.length ≤ 1000 then some (.tup (List.replicate k.toNat xs).flatten) else none
  | _, _ => none
section
variable {W : Wd} {E : XK} {X : Cx}
theorem rf_mulT : RF W mulTD (fun x y H Q => rRepT W.K x y H Q ∨ rRep1 W.K x y H Q ∨ rRep0 W.K x y H Q) := by
  intro F H g x y d v u Q c rx ry e k
  cases x <;> try (cases e; done)
  cases y <;> try (cases e; done)
  rename_i xs n
  simp only [mulTD] at e
  split at e
  · rename_i hc
    cases e
    obtain ⟨a, vs, rfl, ta, ra⟩ := rx
    have hl := ra.length
    have hv : vs ≠ [] := fun z => by subst z; simp only [List.length_nil] at hl; omega
    by_cases q2 : 2 ≤ n
    · exact .inl ⟨a, n, vs, rfl, ry, ta.seq, hv, q2, hc.2.2.1, by omega, fun p np => k _ _ (keep_new np) (c.new np) (tup_new c np (RepL.flat _ ra))⟩
    · by_cases q1 : n = 1
      · subst q1
        have e1 : (List.replicate (Int.toNat 1) xs).flatten = xs := by
          show (List.replicate 1 xs).flatten = xs
          rw [List.replicate_one, List.flatten_singleton]
        rw [e1] at k
        exact .inr (.inl ⟨a, vs, rfl, ry, ta.seq, k H _ (fun _ _ h => h) c ⟨a, vs, rfl, ta, ra⟩⟩)
      · have e1 : (List.replicate n.toNat xs).flatten = [] := by
          rw [show n.toNat = 0 by omega]
          rfl
        rw [e1] at k
        exact .inr (.inr ⟨a, n, vs, rfl, ry, ta.seq, hv, by omega, by omega, fun p np => k _ _ (keep_new np) (c.new np) (tup_new c np RepL.nil)⟩)
  · cases e
variable {a b : Expr} {pos : Pos} {ma mb : M D}
theorem ev_mulT (hK : X.K = W.K) (ha : PE X a (tS W E ma)) (hb : PE X b (tS W E mb)) : PE X (.BinOp a .Mult b pos) (tM W E (opM mulTD ma mb)) :=
  ev_op (op_repT.or (op_rep1.or op_rep0)) (by rw [hK]; exact rf_mulT) ha hb
end
theorem mulT_tup {xs : List D} {k : Int} {g : List Cell} (h : 0 < xs.length ∧ xs.length ≤ 1000) (h2 : -1000 ≤ k ∧ k ≤ 1000) : mulTD (.tup xs) (.int k) g = some (.tup (List.replicate k.toNat xs).flatten) := by
  unfold mulTD
  simp only
  rw [if_pos ⟨h.1, h2.1, h2.2, h.2⟩]
end Ev

/-! Ev26: defs that need no look at what is under way; generators of flat values, drained by list(..). -/
namespace Ev
open PySem PySem.Spec PyProof.Rows L2
/-! ### xs[i] += e on an own list of whole numbers -/
def getLR : V → V → Hp → VK → Prop := fun o i H Q => ∃ p xs k x, o = .ref p ∧ i = .int k ∧ H p = some (.lst xs) ∧ 0 ≤ k ∧ xs[k.toNat]? = some x ∧ Q x H
theorem get_lst {X : Cx} : PGet X getLR := by
  intro pins s σ H o i ov iv Q I ro ri h
  obtain ⟨p, xs, k, x, rfl, rfl, hp, h0, hx, q⟩ := h
  cases ro
  obtain ⟨t, rfl⟩ := ri
  obtain ⟨its, n, r, ho, hz⟩ := I.lst hp
  obtain ⟨w, ew, rw'⟩ := r.get hx
  have hl := r.length
  have hn := line63
  have hk : k.toNat < xs.length := (List.getElem?_eq_some_iff.mp hx).1
  exact wpAny_getItem_list (items := its.toArray) ⟨_, ho, rfl, ⟨n, rfl⟩⟩ h0 (by omega) (by simpa using ew) ⟨x, H, I, rw', q⟩
def augIS (i : Nat) (mi m : M D) : MS := fun e g => match e[i]? with
  | some (.own ds) => (mi e g).toS fun k g1 => match k with
    | .int k => match ds[k.toNat]? with
      | some (.int a) => if 0 ≤ k then (m e g1).toS fun d g2 => match d with
        | .int b => .nx (e.set i (.own (ds.set k.toNat (.int (a + b))))) g2
        | _ => .bad else .bad
      | _ => .bad
    | _ => .bad
  | _ => .bad
section
variable {W : Wd} {E : XK} {X : Cx} {a b c : Expr} {pos p1 p2 : Pos} {ma mb mc : M D} {x : Str}
theorem es_augI (i : Nat) (hb : PE X b (tM W E mb)) (ha : PE X a (tM W E ma)) (hN : X.N[i]? = some x := by rfl) (hv : Vis X.env.scope x := by first | exact Or.inl rfl | exact Or.inr (Or.inl rfl) | exact Or.inr (Or.inr rfl)) (hd : (x == ("__debug__" : Str)) = false := by decide) (hcd : (x == ("__classdict__" : Str)) = false := by decide)
    (hs : ∀ ov iv new, augStore b ov iv new = (do holding [new, ov, iv] (setItem ov iv new); release [new, ov, iv] []; pure .next) := by intros; rfl) :
    PS X (.AugAssign (.Subscript (.Name x p1) b p2) .Add a pos) (tMS W E (augIS i mb ma)) :=
  weakS (ps_augS (pe_var hN hv hd hcd) hb get_lst ha ip_add set_list hs) fun D0 σ H ⟨F, e, g, S, p⟩ => by
    unfold augIS at p
    cases q : e[i]? with
    | none => rw [q] at p; exact p.elim
    | some sl =>
      rw [q] at p
      cases sl with
      | no => exact p.elim
      | v d => exact p.elim
      | own ds =>
        obtain ⟨l, vs, h1, h2, h3, h4⟩ := S.owns i ds q
        refine ⟨_, h1, F, e, g, S, p.toS.mono fun kd g1 F1 H1 x1 c1 k1 u ru => ?_⟩
        have S1 := S.step x1 c1
        obtain ⟨l1, vs1, z1, z2, z3, z4⟩ := S1.owns i ds q
        have e1 : l1 = l := by rw [h1] at z1; cases z1; rfl
        subst e1
        cases kd <;> try exact k1.elim
        rename_i kk
        cases q2 : ds[kk.toNat]? with
        | none => simp only [q2] at k1; exact k1.elim
        | some od =>
          simp only [q2] at k1
          cases od <;> try exact k1.elim
          rename_i av
          by_cases k0 : 0 ≤ kk
          · simp only [if_pos k0] at k1
            obtain ⟨w, ew, rw'⟩ := z4.get q2
            cases (show w = V.int av from rw')
            have hlt := (List.getElem?_eq_some_iff.mp q2).1
            refine ⟨l1, vs1, kk, _, rfl, ru, z3, k0, ew, F1, e, g1, S1, k1.toS.mono fun d g2 F2 H2 x2 c2 k2 v r => ?_⟩
            have S2 := S1.step x2 c2
            obtain ⟨l2, vs2, y1, y2, y3, y4⟩ := S2.owns i ds q
            have e2 : l2 = l1 := by rw [h1] at y1; cases y1; rfl
            subst e2
            cases d <;> try exact k2.elim
            rename_i bv
            refine ⟨av, bv, rfl, r, l2, vs2, kk, kk.toNat, rfl, ru, y3, ?_, ?_⟩
            · unfold ixN
              rw [if_pos k0, if_pos (by rw [← y4.length]; omega)]
            · obtain ⟨xs, S3⟩ := S2.wr q h1 (y4.set kk.toNat (rep_int (W := W) (F := F2) (H := H2) (av + bv)))
              exact k2 F2 σ _ xs S3
          · simp only [if_neg k0] at k1; exact k1.elim
end

/-! ### defs that need no look at what is under way: FnOk -/
def FnZ (P : Program) (w : World) (K : PySem.W.Frag) (mg : Str → Option Value) (base : Heap) (CX : CXT) (k : Nat) (f : Addr) (sp : Sp) : Prop :=
  ∀ (A : Around) (outer : List PySem.Env) (s : Shared) (H : Hp) (us : List Value) (vs : List V) (Q : VK) (E : XK), Room k A → Env0 P w K mg base A outer s H → Vals vs us → sp vs H Q E →
    codeAny (model P w) A (.call (.ref f) ⟨us, []⟩) (CR CX outer P w H s Q E) s
section
variable {P : Program} {w : World} {K : PySem.W.Frag} {mg : Str → Option Value} {base : Heap} {CX : CXT} {j k n : Nat} {f : Addr} {fd : FuncData} {ps : List Str} {sp : Sp}
theorem fnZ_of {name qual : Str} {prm : Arguments} {body : List Stmt} {sc : Scope} {dV kV doc pm cdv ct oc : Value} {an od : Option Addr} {osl : Array (Option Value)} {N : List Str}
    (lk : K.lookup f = some ⟨oc, od, .func (PySem.W.fnOf name qual prm body sc dV kV doc pm an cdv ct), osl⟩) (hcd : PySem.W.codeIn K cdv qual = true) (S : FnScope N ps sc) (ar : ∀ vs H Q E, sp vs H Q E → vs.length = ps.length)
    (hb : ∀ (A : Around) (out : List PySem.Env) (s : Shared) (H : Hp) (vs : List V) (Q : VK) (E : XK), Room k (A.deeper (envOfC qual sc s.heap.objs.size f cdv)) → sp vs H Q E →
      ∃ t, PSs (cxOf CX P w K mg base N qual sc f cdv A out s H E) body t ∧ t { nx := fun _ H' => Q .non H', rt := Q } (L2.start N vs) H) :
    FnOk P w K mg base CX (k + 1) f (PySem.W.fnOf name qual prm body sc dV kV doc pm an cdv ct) ps sp := by
  refine ⟨ar, fun A out s H args us vs Q E hr e0 bt rv h => ?_⟩
  have l0 := ar _ _ _ _ h
  have KX : K.In s.heap := e0.mod.kin.keeps fun b o q => (e0.bs b o q).1
  have lim : s.heap.NoLimit := e0.mod.nolimit.keeps fun b o q => (e0.bs b o q).1
  have kinds : ∀ z ∈ ps.zip us, sc.names.lookup z.1 = some .local ∨ (sc.names.lookup z.1 = some .cell ∧ ((cellsFrom (s.heap.objs.size + 1) sc.names []).lookup z.1).isSome = true) := by
    rintro ⟨n, v⟩ hz
    rcases S.par n (List.of_mem_zip hz).1 with q | q
    · exact .inl q
    · exact .inr ⟨q, PySem.W.cellsFrom_some _ _ _ (.inl q)⟩
  refine codeAny_call_function hr.depth (KX _ _ lk) rfl S.co S.gen rfl (PySem.W.codeRec_of KX hcd) (bt _ _ _ _ ?_)
  refine wpAny_newFunctionEnv_cells S.kind kinds fun env q s1 x => ?_
  subst q
  refine ⟨lim.keeps x.toInCall.keep, codeAny_func ?_⟩
  obtain ⟨t, ht, hq⟩ := hb A out s H vs Q E (hr.deeper _) h
  have I := inv_start (CX := CX) (P := P) (w := w) (K := K) (mg := mg) (base := base) (qual := qual) (f := f) (cd := cdv) (A := A) (outer := out) (E := E) S hr.hd e0 l0 rv x
  refine wpAny_mono (ht.run [] s1 (L2.start N vs) H _ I hq) (fun fl s' z => ?_) fun _ _ z => z
  cases fl with
  | next =>
    obtain ⟨_, H', J, z⟩ := z
    exact ⟨V.non, H', J.os, J.bare, J.base, J.hok, rfl, z⟩
  | ret u =>
    obtain ⟨v, _, H', J, r, z⟩ := z
    exact ⟨v, H', J.os, J.bare, J.base, J.hok, r, z⟩
  | brk => obtain ⟨_, _, _, z⟩ := z; exact z.elim
  | cont => obtain ⟨_, _, _, z⟩ := z; exact z.elim
theorem FnZ.of (G : FnOk P w K mg base CX k f fd ps sp) (bd : Binds K fd ps []) : FnZ P w K mg base CX k f sp := fun A out s H us vs Q E hr e0 r hs => by
  have l2 : us.length = ps.length := r.length.symm.trans (G.len _ _ _ _ hs)
  have b := bd s us (e0.mod.kin.keeps fun b o e => (e0.bs b o e).1) (by rw [List.append_nil]; exact l2)
  rw [List.append_nil] at b
  exact G.run A out s H ⟨us, []⟩ us vs Q E hr e0 b r hs
end
theorem fnZ_ev {P : Program} {w : World} {mg : Str → Option Value} {base : Heap} {W : Wd} {k n m : Nat} {x qual : Str} {st : Stmt} {f : Addr} {fd : FuncData} {N ps : List Str} {body : MS} (F : Fun W.K x qual st f fd) (S : FnScope N ps (defScope st)) (hn : ps.length = n) (hm : N.length = m)
    (h : ∀ (cdv : Value) (A : Around) (out : List PySem.Env) (s : Shared) (H : Hp) (E : XK), Room k (A.deeper (envOfC qual (defScope st) s.heap.objs.size f cdv)) →
      PSs (cxOf CX0 P w W.K mg base N qual (defScope st) f cdv A out s H E).nox (defBody st) (tMS W E body)) : FnOk P w W.K mg base CX0 (k + 1) f fd ps (spEv W n (fnM n m body)) := by
  subst hn hm
  obtain ⟨oc, od, kV, doc, pm, an, cdv, ct, osl, rfl, lk, hcd⟩ := F.ex
  refine fnZ_of lk hcd S (fun vs H Q E q => spEv_len q) fun A out s H vs Q E hr hsp => ⟨_, (h cdv A out s H E hr).nox, ?_⟩
  obtain ⟨nu, th, ds, g, c, r, hl, p⟩ := hsp
  have S0 := st_start (N := N) c r
  rw [hl] at S0
  unfold fnM at p
  rw [if_pos hl] at p
  exact ⟨_, _, g, S0, fn_post p⟩
section
variable {W : Wd} {E : XK} {X : Cx} {CX : CXT} {k n : Nat} {f g : Addr} {fd : FuncData} {ps : List Str} {fs : List D → List Cell → R D} {x : Str} {p pos : Pos} {a e : Expr} {es : List Expr} {mr : M (List D)} {sp : Sp}
theorem run_fnZ {A : Around} {pins : List (Addr × Obj)} {σ : L2.St} {H : Hp} {s : Shared} {Q : VK} {us : List Value} {vs : List V} (F : FnZ X.prog X.w X.K X.mg X.base CX k g sp) (hr : Room k A) (hf : A.frames = X.A.frames)
    (px : Passes CX X E) (I : Inv X pins σ H s) (r : Vals vs us) (h : sp vs H Q E) : wpAny (model X.prog X.w) A (call (.ref g) us) (EP X pins σ Q) X.xe s := by
  have e0 : Env0 X.prog X.w X.K X.mg X.base A X.stack s H := by
    have e := I.env0
    exact ⟨by rw [hf]; exact e.frames, e.mod, e.bs, e.bsz, e.funs, e.frf, e.hok, e.bare⟩
  refine wpAny_call (codeAny_mono (F A X.stack s H us vs Q E hr e0 r h) fun res s' z => ?_)
  rcases res with er | (u | _ | _ | _)
  · exact px pins σ H s er s' I z
  all_goals first
    | exact I.after z
    | exact z.elim
theorem ev_callZ (G : FnOk X.prog X.w X.K X.mg X.base CX k f fd ps (spEv W n fs)) (hr : Room k X.A) (hg : Gl X x) (hm : X.mg x = some (.ref f)) (hk : PySem.W.keepIn X.K (.ref f) = true) (bd : Binds X.K fd ps []) (px : Passes CX X E)
    (ha : PA X (e :: es) (tL W E mr)) (hdb : (x == ("__debug__" : Str)) = false := by decide) (he : starEach (e :: es) X.env = (false, eval e X.env) :: starEach es X.env := by rfl) (hpl : (backTo pos (starEach es X.env)).any (·.1) = false := by rfl) :
    PE X (.Call (.Name x p) (e :: es) [] pos) (tM W E (callM n fs mr)) := by
  refine ⟨fun pins s σ H Q I ⟨F, en, g, S, q⟩ => wpAny_Call_Name_kw (ld_glob I hg hm ?_ hdb)⟩
  refine PySem.W.callWith_K (h₀ := X.base) I.ok.mod.kin hk (thn (ha.run pos pins s σ H (fun vs H1 => spEv W n fs vs H1 Q E) I ⟨F, en, g, S, (Post.bind q).mono fun ds g1 F1 H1 x1 c1 k1 vs r => sp_in c1 r k1⟩) fun us s1 ⟨vs, H1, I1, r, q⟩ => ⟨I1.kIn, ?_⟩) he hpl
  exact run_fnZ (FnZ.of G bd) hr rfl px I1 r q
theorem call_ruLenZ (hK : X.K = W.K) (B : OwnM W "__len__" g) (F : FnZ X.prog X.w X.K X.mg X.base CX k g sp) (hr : Room (k + 1) X.A) (px : Passes CX X E) : CallR X (.builtin "len") (rRuLen W sp E) := by
  rintro pins s σ H xs us Q I r ⟨x, c, ex, ⟨a, dx, ws, rfl, hc, ha⟩, h⟩
  subst ex
  obtain ⟨u, rfl, rx⟩ := vals1 r
  cases rx
  obtain ⟨ox, od, J, _⟩ := ins_at I ha
  obtain ⟨m, hF⟩ := I.fr
  have kin := I.ok.mod.kin
  rw [hK] at kin
  exact PySem.W.len_K hF kin J (B.at_ c hc) B.fn (wpAny_mono (run_fnZ (A := X.A.in1) F hr.in1 rfl px I (.cons (a := V.ref a) (F := RelV) rfl .nil) h) (fun z s' q => by
    obtain ⟨v, H', I', rv, n, rfl, hn, q⟩ := q
    obtain ⟨t, rfl⟩ := rv
    exact ⟨hn, .int n, H', I'.tok _, ⟨_, rfl⟩, q⟩) fun _ _ z => z)
theorem ev_ruLenZ {x : Str} {p1 : Pos} {m : M (List D)} (hK : X.K = W.K) (B : OwnM W "__len__" g) (M : FnZ X.prog X.w X.K X.mg X.base CX k g (spEv W 1 fs)) (hr : Room (k + 1) X.A) (px : Passes CX X E) (hg : Gl X x) (hm : X.mg x = none) (hv : bootBuiltins x = some (.builtin "len"))
    (ha : PA X [a] (tL W E m)) (hn : x ≠ "__name__" := by decide) (hdb : (x == ("__debug__" : Str)) = false := by decide) (he : starEach [a] X.env = (false, eval a X.env) :: starEach [] X.env := by rfl) (hpl : (backTo pos (starEach [] X.env)).any (·.1) = false := by rfl) :
    PE X (.Call (.Name x p1) [a] [] pos) (tM W E (ruLen fs m)) :=
  weakE (pe_callB (call_ruLenZ hK B M hr px) hg hm hv ha hn hdb he hpl) fun σ H Q ⟨F, e, g, S, p⟩ => by
    refine ⟨F, e, g, S, (Post.bind p).mono fun ds g1 F1 H1 x1 c1 p1 vs rr => ?_⟩
    match ds, p1, rr with
    | [x], p1, rr =>
      obtain ⟨v, r, rfl, rx, r0⟩ := rr
      cases (show r = [] from r0)
      obtain ⟨h1, p1⟩ := post_ite (g := g1) p1
      refine ⟨v, _, rfl, insRu_of rx h1, sp_in (n := 1) (ds := [x]) c1 (RepL.one rx) ?_⟩
      rw [if_pos (show [x].length = 1 from rfl)]
      refine (Post.bind p1).mono fun d g2 F2 H2 x2 c2 p2 w rw => ?_
      cases d <;> try exact p2.elim
      obtain ⟨h2, p2⟩ := post_ite (g := g2) p2
      exact ⟨_, rw, by omega, p2 F2 H2 .refl c2 _ (rep_int _)⟩
    | [], p1, rr => exact p1.elim
    | _ :: _ :: _, p1, rr => exact p1.elim
end

/-! ### a generator's body: what it has handed out stands beside the state -/
inductive RG where
  | nx (e : Env) (ys : List D) (g : List Cell) | bad
abbrev MG := Env → List D → List Cell → RG
def GPost (W : Wd) (F : Fb) (H : Hp) (r : RG) (D0 : GEnds) : Prop := match r with
  | .nx e ys g => ∀ F' σ' H', Xs F F' H H' → St W F' e g σ' H' → D0.nx (ys.map toV) σ' H'
  | .bad => False
theorem GPost.on {W : Wd} {F F' : Fb} {H H' : Hp} {r : RG} {D0 : GEnds} (p : GPost W F H r D0) (x : Xs F F' H H') : GPost W F' H' r D0 := by
  cases r with
  | nx e ys g => exact fun F2 σ2 H2 y s => p F2 σ2 H2 (x.trans y) s
  | bad => exact p
def tMG (W : Wd) (m : MG) : TGn := fun D0 zs σ H => ∃ F e g ys, St W F e g σ H ∧ zs = ys.map toV ∧ GPost W F H (m e ys g) D0
section
variable {W : Wd} {X : Cx} {st : Stmt} {rest body : List Stmt} {e c : Expr} {pos yp : Pos} {s1 : MS} {m m2 : MG} {me : M D} {tc : M Bool}
def plG (s : MS) : MG := fun e ys g => match s e g with
  | .nx e1 g1 => .nx e1 ys g1
  | _ => .bad
theorem PS.nox1 {t : TS} (h : PS X.nox st t) : PS X st t := ⟨fun pins s σ H D I hw =>
  wpAny_mono (h.run pins s σ H D (I.wish _) hw) (fun _ _ q => q.unwish) fun _ _ z => False.elim z⟩
theorem weakGS {t t' : TGn} (h : L2.GS X st t) (w : ∀ D0 ys σ H, t' D0 ys σ H → t D0 ys σ H) : L2.GS X st t' := ⟨fun A S ip R n ys s0 c fs K J gd lv s σ H D0 g hn k hI ht => h.run A S ip R n ys s0 c fs K J gd lv s σ H D0 g hn k hI (w _ _ _ _ ht)⟩
theorem weakGSs {t t' : TGn} (h : GSs X rest t) (w : ∀ D0 ys σ H, t' D0 ys σ H → t D0 ys σ H) : GSs X rest t' := ⟨fun A S ip R n ys s0 c fs K J gd lv s σ H D0 g hn k hI ht => h.run A S ip R n ys s0 c fs K J gd lv s σ H D0 g hn k hI (w _ _ _ _ ht)⟩
theorem gg_plain (h : PS X.nox st (tMS W (fun _ _ _ => False) s1)) : L2.GS X st (tMG W (plG s1)) := weakGS (gs_ps (PS.nox1 h)) fun D0 zs σ H ⟨F, e, g, ys, S, ez, p⟩ => by
  refine ⟨F, e, g, S, ?_⟩
  unfold plG at p
  subst ez
  cases q : s1 e g with
  | nx e1 g1 =>
    rw [q] at p
    exact fun F' σ' H' x s => p F' σ' H' x s
  | bk _ _ => rw [q] at p; exact p.elim
  | ct _ _ => rw [q] at p; exact p.elim
  | rt _ _ => rw [q] at p; exact p.elim
  | ex _ _ _ => rw [q] at p; exact p.elim
  | bad => rw [q] at p; exact p.elim
def yldG (me : M D) : MG := fun e ys g => match me e g with
  | .ok d g1 => if flatD d = true ∧ ys.length < 16777216 then .nx e (ys ++ [d]) g1 else .bad
  | _ => .bad
theorem gg_yield (h : PE X.nox e (tM W (fun _ _ _ => False) me)) (hco : X.env.scope.isCoroutine = false := by rfl) (hi : interactive X.env = false := by rfl) : L2.GS X (.Expr (.Yield (some e) yp) pos) (tMG W (yldG me)) := weakGS (gs_yield h.nox hco hi) fun D0 zs σ H ⟨F, en, g, ys, S, ez, p⟩ => by
  subst ez
  unfold yldG at p
  cases q : me en g with
  | ok d g1 =>
    rw [q] at p
    simp only at p
    split at p
    · rename_i hc
      refine ⟨by rw [List.length_map, sizeLine_eq]; exact hc.2, F, en, g, S, ?_⟩
      rw [q]
      intro F' H' x c v r
      obtain ⟨e1, _⟩ := flat_of r hc.1
      have := p F' σ H' x.xs (S.step x c)
      rw [List.map_append] at this
      rw [e1]
      exact this
    · exact p.elim
  | ex _ _ _ => rw [q] at p; exact p.elim
  | bad => rw [q] at p; exact p.elim
def skipG : MG := fun e ys g => .nx e ys g
def seqG (a b : MG) : MG := fun e ys g => match a e ys g with
  | .nx e1 ys1 g1 => b e1 ys1 g1
  | .bad => .bad
theorem ggs_nil : GSs X [] (tMG W skipG) := weakGSs gss_nil fun D0 zs σ H ⟨F, e, g, ys, S, ez, p⟩ => by
  subst ez
  exact p F σ H .refl S
theorem ggs_cons (h : L2.GS X st (tMG W m)) (k : GSs X rest (tMG W m2)) : GSs X (st :: rest) (tMG W (seqG m m2)) := weakGSs (gss_cons h k) fun D0 zs σ H ⟨F, e, g, ys, S, ez, p⟩ => by
  refine ⟨F, e, g, ys, S, ez, ?_⟩
  unfold seqG at p
  cases q : m e ys g with
  | nx e1 ys1 g1 =>
    rw [q] at p
    exact fun F' σ' H' x s => ⟨F', e1, g1, ys1, s, rfl, p.on x⟩
  | bad => rw [q] at p; exact p.elim
theorem ggs_one (h : L2.GS X st (tMG W m)) : GSs X [st] (tMG W (seqG m skipG)) := ggs_cons h ggs_nil
def whG (t : M Bool) (m : MG) : Nat → MG
  | 0 => fun _ _ _ => .bad
  | n + 1 => fun e ys g => match t e g with
    | .ok b g1 => if b = true then (match m e ys g1 with
      | .nx e2 ys2 g2 => whG t m n e2 ys2 g2
      | .bad => .bad) else .nx e ys g1
    | _ => .bad
theorem gg_while (n : Nat) (hp : PassesOwn (model X.prog X.w) X.A X.env X.xe) (hc : PT X.nox c (tB W (fun _ _ _ => False) tc)) (hb : GSs X body (tMG W m)) : L2.GS X (.While c body [] pos) (tMG W (whG tc m n)) := weakGS (gs_while hp hc.nox hb) fun D0 zs σ H ⟨F, e, g, ys, S, ez, p⟩ => by
  refine ⟨fun k zs σ' H' => ∃ F' e' g' ys', St W F' e' g' σ' H' ∧ zs = ys'.map toV ∧ GPost W F' H' (whG tc m k e' ys' g') D0, ⟨n, F, e, g, ys, S, ez, p⟩, ?_⟩
  rintro k zs σ' H' ⟨F', e', g', ys', S', ez', p'⟩
  cases k with
  | zero => exact p'.elim
  | succ k =>
    refine ⟨F', e', g', S', ?_⟩
    unfold whG at p'
    cases q : tc e' g' with
    | ex _ _ _ => rw [q] at p'; exact p'.elim
    | bad => rw [q] at p'; exact p'.elim
    | ok b g1 =>
      rw [q] at p'
      simp only at p'
      intro F1 H1 x1 c1
      cases b with
      | false =>
        rw [if_neg (by decide)] at p' ⊢
        subst ez'
        exact p' F1 σ' H1 x1.xs (S'.step x1 c1)
      | true =>
        rw [if_pos rfl] at p' ⊢
        refine ⟨fun zs2 σ2 H2 => ∃ F2 e2 g2 ys2, St W F2 e2 g2 σ2 H2 ∧ zs2 = ys2.map toV ∧ GPost W F2 H2 (whG tc m k e2 ys2 g2) D0, fun zs2 σ2 H2 h => ⟨k, Nat.lt_succ_self _, h⟩, F1, e', g1, ys', S'.step x1 c1, ez', ?_⟩
        cases q2 : m e' ys' g1 with
        | nx e2 ys2 g2 =>
          rw [q2] at p'
          exact fun F2 σ2 H2 x2 s2 => ⟨F2, e2, g2, ys2, s2, rfl, p'.on (x1.xs.trans x2)⟩
        | bad => rw [q2] at p'; exact p'.elim
end
/-- a generator def's promise -/
def GOut (W : Wd) (F : Fb) (H : Hp) (r : R (List D)) (Q : List V → Hp → Prop) : Prop := match r with
  | .ok ys g => ys.all flatD = true ∧ ∀ F' H', Xe F F' H H' → Cells W F' H' g → Q (ys.map toV) H'
  | _ => False
def spGen (W : Wd) (n : Nat) (f : List D → List Cell → R (List D)) : SpG := fun vs H Q E => ∃ nu th ds g, Cells W ⟨nu, [], th⟩ H g ∧ RepL W ⟨nu, [], th⟩ H ds vs ∧ ds.length = n ∧ GOut W ⟨nu, [], th⟩ H (f ds g) Q
theorem spGen_len {W : Wd} {n : Nat} {f : List D → List Cell → R (List D)} {vs : List V} {H : Hp} {Q : List V → Hp → Prop} {E : XK} (h : spGen W n f vs H Q E) : vs.length = n := by
  obtain ⟨nu, th, ds, g, _, r, hl, _⟩ := h
  rw [← r.length]; exact hl
@[irreducible] def genF (n N : Nat) (body : MG) : List D → List Cell → R (List D) := fun ds g => if ds.length = n then (match body (ds.map .v ++ List.replicate (N - n) .no) [] g with
  | .nx _ ys g1 => if ys.all flatD = true then .ok ys g1 else .bad
  | .bad => .bad) else .bad
theorem gfn_ev {P : Program} {w : World} {mg : Str → Option Value} {base : Heap} {W : Wd} {k n m : Nat} {x qual : Str} {st : Stmt} {f : Addr} {fd : FuncData} {N ps : List Str} {body : MG} (F : Fun W.K x qual st f fd) (S : GScope N ps (defScope st)) (hn : ps.length = n) (hm : N.length = m)
    (h : ∀ (cdv : Value) (A : Around) (out : List PySem.Env) (s : Shared) (H : Hp) (E : XK) (pn : List (Addr × Obj)), Room k (A.deeper (envOfC qual (defScope st) s.heap.objs.size f cdv)) →
      GSs (gcxOf P w W.K mg base N qual (defScope st) f cdv A out s H E pn) (defBody st) (tMG W body)) : GFn P w W.K mg base (k + 1) f fd ps (spGen W n (genF n m body)) := by
  subst hn hm
  obtain ⟨oc, od, kV, doc, pm, an, cdv, ct, osl, rfl, lk, hcd⟩ := F.ex
  refine gfn_of lk hcd S (fun vs H Q E q => spGen_len q) fun A out s H vs Q E pn hr hsp => ⟨_, h cdv A out s H E pn hr, ?_⟩
  obtain ⟨nu, th, ds, g, c, r, hl, p⟩ := hsp
  have S0 := st_start (N := N) c r
  rw [hl] at S0
  unfold genF at p
  rw [if_pos hl] at p
  refine ⟨_, _, g, [], S0, rfl, ?_⟩
  cases q : body (ds.map .v ++ List.replicate (N.length - ps.length) .no) [] g with
  | bad => rw [q] at p; exact p.elim
  | nx e1 ys g1 =>
    rw [q] at p
    simp only at p
    split at p
    · exact fun F' σ' H' x s => p.2 F'.base H' ⟨fun a o h n => x.keep a o h n (by simp), x.st, x.th, x.nu, rfl⟩ s.cells.base
    · exact p.elim
section
variable {W : Wd} {E : XK} {X : Cx} {k n : Nat} {f : Addr} {fd : FuncData} {ps : List Str} {fs : List D → List Cell → R (List D)} {x nm : Str} {p pos p2 pos2 : Pos} {e : Expr} {es : List Expr} {mr : M (List D)}
def genM (n : Nat) (f : List D → List Cell → R (List D)) (m : M (List D)) : M (List D) := fun e g => (m e g).bind fun ds g1 => if ds.length = n then (match f ds g1 with
  | .ok ys g2 => if ys.all flatD = true then .ok ys g2 else .bad
  | _ => .bad) else .bad
theorem flats_rep {W : Wd} {F : Fb} {H : Hp} : ∀ {ds : List D}, ds.all flatD = true → RepL W F H ds (ds.map toV)
  | [], _ => rfl
  | d :: ds, f => by
    rw [List.all_cons, Bool.and_eq_true] at f
    refine ⟨toV d, ds.map toV, rfl, ?_, flats_rep f.2⟩
    cases d <;> first | rfl | cases f.1
theorem ev_listG (G : GFn X.prog X.w X.K X.mg X.base k f fd ps (spGen W n fs)) (hr0 : Room k X.A) (hr : Room (k + 3) X.A) (hg : Gl X x) (hm : X.mg x = some (.ref f)) (hk : PySem.W.keepIn X.K (.ref f) = true) (bd : Binds X.K fd ps []) (hg2 : Gl X nm) (hmg : X.mg nm = none) (hv : bootBuiltins nm = some (.type "list"))
    (ha : PA X (e :: es) (tL W E mr)) (hdb : (x == ("__debug__" : Str)) = false := by decide) (he : starEach (e :: es) X.env = (false, eval e X.env) :: starEach es X.env := by rfl) (hpl : (backTo pos (starEach es X.env)).any (·.1) = false := by rfl)
    (hnm : nm ≠ "__name__" := by decide) (hdb2 : (nm == ("__debug__" : Str)) = false := by decide) (he2 : starEach [.Call (.Name x p) (e :: es) [] pos] X.env = (false, eval (.Call (.Name x p) (e :: es) [] pos) X.env) :: starEach [] X.env := by rfl) :
    PE X (.Call (.Name nm p2) [.Call (.Name x p) (e :: es) [] pos] [] pos2) (tF W E (genM n fs mr)) :=
  weakE (pe_listG (E := fun _ _ _ => False) (pgen_call (dvs := []) (ds := []) G hr0 hg hm hk bd .nil ha hdb he hpl) (fun _ _ _ _ _ _ _ ⟨_, _, _, _, _, _, _, _, _, _, _, _, z⟩ => z.elim) (fun _ _ _ z => z.elim) hr hg2 hmg hv hnm hdb2 he2) fun σ H Q ⟨F, en, g, S, p⟩ => by
    refine ⟨F, en, g, S, (Post.bind p).mono fun ds g1 F1 H1 x1 c1 k1 vs r => ?_⟩
    show spGen W n fs (vs ++ []) H1 _ _
    rw [List.append_nil]
    split at k1
    · rename_i hl
      refine ⟨_, _, ds, g1, c1.out, r.up (Up.of_has (fun a h => out_has.mp h) rfl), hl, ?_⟩
      cases q : fs ds g1 with
      | ok ys g2 =>
        rw [q] at k1
        simp only at k1
        split at k1
        · rename_i hf
          refine ⟨hf, fun F' H' x c' p np => ?_⟩
          have hh : ∀ a, (⟨F1.nu, F1.om, F'.th⟩ : Fb).has a → F'.has a := fun a z => by
            rcases z with z | z | z
            · exact .inl (by rw [x.nu]; exact List.mem_append_left _ z)
            · exact .inl (by rw [x.nu]; exact List.mem_append_right _ z)
            · exact .inr (.inr z)
          exact k1 ⟨F1.nu, F1.om, F'.th⟩ H' ⟨x.keep, x.st, x.th, rfl, rfl⟩ (c'.less hh rfl (fun a h => by
            have := (c'.dj a h).1
            rw [x.nu] at this
            exact ⟨fun z => this (List.mem_append_left _ z), fun z => this (List.mem_append_right _ z)⟩) c1.dj2) p _ np (flats_rep hf)
        · exact k1.elim
      | ex _ _ _ => rw [q] at k1; exact k1.elim
      | bad => rw [q] at k1; exact k1.elim
    · exact k1.elim
end
/-! ### parts that make no cells -/
def sameS (s : MS) : MS := fun e g => match s e g with
  | .nx e1 g1 => if g1.length = g.length then .nx e1 g1 else .bad
  | _ => .bad
def sameM {α : Type} (m : M α) : M α := fun e g => match m e g with
  | .ok a g1 => if g1.length = g.length then .ok a g1 else .bad
  | _ => .bad
def sameB (m : M Bool) : M Bool := sameM m
section
variable {W : Wd} {E : XK} {X : Cx} {st : Stmt} {e : Expr} {s1 : MS} {me : M D} {mt : M Bool}
theorem ev_sameS (h : PS X st (tMS W E s1)) : PS X st (tMS W E (sameS s1)) := weakS h fun D0 σ H ⟨F, e, g, S, p⟩ => by
  refine ⟨F, e, g, S, ?_⟩
  unfold sameS at p
  cases q : s1 e g <;> rw [q] at p <;> try exact p.elim
  simp only at p
  split at p
  · exact p
  · exact p.elim
theorem same_post {α : Type} {F : Fb} {H : Hp} {r : R α} {n : Nat} {k : α → List Cell → Fb → Hp → Prop} (p : Post W E F H (match r with
  | .ok a g1 => if g1.length = n then .ok a g1 else .bad
  | _ => .bad) k) : Post W E F H r k := by
  cases r with
  | ok a g1 =>
    simp only at p
    split at p
    · exact p
    · exact p.elim
  | ex _ _ _ => exact p.elim
  | bad => exact p.elim
theorem ev_sameM (h : PE X e (tM W E me)) : PE X e (tM W E (sameM me)) := weakE h fun σ H Q ⟨F, e, g, S, p⟩ => ⟨F, e, g, S, same_post p⟩
theorem ev_sameB (h : PT X e (tB W E mt)) : PT X e (tB W E (sameB mt)) := ⟨fun pins s σ H Q I ⟨F, e, g, S, p⟩ => h.run pins s σ H Q I ⟨F, e, g, S, same_post p⟩⟩
end

/-! ### data that name no cell -/
mutual
def noG : D → Bool
  | .g _ => false
  | .tup xs => noGs xs
  | .lst xs => noGs xs
  | .ob _ x => noG x
  | .exc _ x => noG x
  | .da xs => noGs xs
  | _ => true
def noGs : List D → Bool
  | [] => true
  | d :: ds => noG d && noGs ds
end
/-- a generator's items, for a loop -/
def genI (n : Nat) (fs : List D → List Cell → R (List D)) (m : M (List D)) : M (List D) := fun e g => (m e g).bind fun ds g1 => if ds.length = n ∧ noGs ds = true then (match fs ds [] with
  | .ok T [] => .ok T g1
  | _ => .bad) else .bad
def GenOut (f : List D → List Cell → R (List D)) (ds T : List D) : Prop := noGs ds = true ∧ f ds [] = .ok T []
/-- *a among arguments -/
def starM (a : M D) (r : M (List D)) : M (List D) := fun e g => (a e g).bind fun x g1 => match x with
  | .tup xs => (r e g1).bind fun ys g2 => .ok (xs ++ ys) g2
  | .lst xs => (r e g1).bind fun ys g2 => .ok (xs ++ ys) g2
  | _ => .bad
end Ev

/-! Ev27: a chain of the rules' own comparisons. -/
namespace Ev
open PySem PySem.Spec PyProof.Rows L2
def twoCh (q q' : D → D → List Cell → R D) (a b c : M D) : M D := fun e g => (a e g).bind fun x g1 => (b e g1).bind fun y g2 => (q x y g2).bind fun d g3 => match d with
  | .bl k => if k = true then (c e g3).bind fun z g4 => q' y z g4 else .ok (.bl false) g3
  | _ => .bad
theorem ev_chRu {W : Wd} {E : XK} {X : Cx} {op op' : CmpOp} {q q' : D → D → List Cell → R D} {a b c : Expr} {ma mb mc : M D} {pos : Pos} (h : CmpRu W E X op q) (h' : CmpRu W E X op' q') (ha : PE X a (tM W E ma)) (hb : PE X b (tM W E mb)) (hc : PE X c (tM W E mc))
    (hm : lastMarks [op, op'] [b, c] = false := by with_unfolding_all rfl) : PE X (.Compare a [op, op'] [b, c] pos) (tM W E (twoCh q q' ma mb mc)) := by
  obtain ⟨r, ho, hq⟩ := h.ex
  obtain ⟨r', ho', hq'⟩ := h'.ex
  refine weakE (pe_chain ho ho' ha hb hc hm) fun σ H Q ⟨F, e, g, S, p⟩ => ?_
  refine ⟨F, e, g, S, (Post.bind p).mono fun x g1 F1 H1 x1 c1 p1 v rx => ?_⟩
  refine ⟨F1, e, g1, S.step x1 c1, (Post.bind p1).mono fun y g2 F2 H2 x2 c2 p2 u ry => ?_⟩
  refine hq F2 H2 g2 x y v u _ c2 (rx.up x2.up) ry ((Post.bind p2).mono fun d g3 F3 H3 x3 c3 p3 w rw => ?_)
  cases d <;> try exact p3.elim
  rename_i k
  refine ⟨k, rw, ?_⟩
  cases k with
  | false => exact p3 F3 H3 .refl c3 _ (rep_bl _)
  | true =>
    exact ⟨F3, e, g3, ((S.step x1 c1).step x2 c2).step x3 c3, (Post.bind p3).mono fun z g4 F4 H4 x4 c4 p4 w' rz => hq' F4 H4 g4 y z u w' Q c4 ((ry.up x3.up).up x4.up) rz p4⟩
end Ev

/-! Ev28: objects that change: cells with one field. -/
namespace Ev
open PySem PySem.Spec PyProof.Rows L2
/-- the field of the object in a cell -/
def cobD (c : Nat) : D → List Cell → Option D := fun x g => match x with
  | .g n => match g[n]? with
    | some (.ob k d) => if k = c then some d else none
    | _ => none
  | _ => none
/-- what stands of the class -/
structure ObOk (W : Wd) (c : Nat) (fld : Str) : Prop where
  cls : Cls W.K (W.cl c)
  no : NoAttr W.K (W.cl c) fld
  fd : W.fd c = fld
theorem cob_of {W : Wd} {F : Fb} {H : Hp} {g : List Cell} {x d : D} {v : V} {c : Nat} (cc : Cells W F H g) (rx : Rep W F H x v) (h : cobD c x g = some d) :
    ∃ n a dx u, x = .g n ∧ g[n]? = some (.ob c d) ∧ F.th[n]? = some a ∧ v = .ref a ∧ H a = some (.ins (W.cl c) dx [(W.fd c, u)]) ∧ Rep W F H d u := by
  cases x <;> try (cases h; done)
  rename_i n
  unfold cobD at h
  simp only at h
  cases q : g[n]? with
  | none => rw [q] at h; cases h
  | some ce =>
    rw [q] at h
    cases ce with
    | lst _ => cases h
    | dct _ => cases h
    | tbl _ => cases h
    | ob k d' =>
      simp only at h
      split at h
      · rename_i hk
        subst hk
        cases h
        obtain ⟨a, h1, rfl⟩ := rx
        obtain ⟨dx, u, h2, h3⟩ := cc.cel n a _ h1 q
        exact ⟨n, a, dx, u, rfl, q, h1, rfl, h2, h3⟩
      · cases h
section
variable {W : Wd} {E : XK} {X : Cx} {CX : CXT} {c k n : Nat} {f : Addr} {fs : List D → List Cell → R D} {fld m x : Str} {a e o : Expr} {es : List Expr} {p1 p2 p3 pos apos : Pos} {me ma mo : M D} {mr : M (List D)}
theorem ev_cob (hK : X.K = W.K) (K : ObOk W c fld) (he : PE X e (tM W E me)) (hb : attributeBase e fld X.env (eval e X.env) = eval e X.env := by rfl) : PE X (.Attribute e fld pos) (tM W E (unM (cobD c) me)) :=
  weakE (pe_fld he hb) fun σ H Q ⟨F, en, g, S, p⟩ => by
    refine ⟨F, en, g, S, (Post.bind p).mono fun x g1 F1 H1 x1 c1 p1 v r1 => ?_⟩
    obtain ⟨d, hd, kk⟩ := post_of p1
    obtain ⟨n, a, dx, u, _, _, _, h1, h2, h3⟩ := cob_of c1 r1 hd
    refine ⟨a, W.cl c, dx, [(W.fd c, u)], u, h1, h2, by rw [hK]; exact K.cls, by rw [hK]; exact K.no, ?_, kk F1 H1 .refl c1 _ h3⟩
    rw [← K.fd]
    simp [List.lookup]
theorem St.wrG {F : Fb} {e : Env} {g : List Cell} {σ : L2.St} {H : Hp} (S : St W F e g σ H) {n : Nat} {ce : Cell} {o' : HO} {p : Addr} (hp : F.th[n]? = some p) (hc : CellR W F (upd H p o') p ce) :
    Xe F F H (upd H p o') ∧ St W F e (g.set n ce) σ (upd H p o') := by
  have hm : p ∈ F.th := List.mem_of_getElem? hp
  have up : Up F F H (upd H p o') := Up.wr (.inr (.inr hm))
  have tr' : ∀ a u, H a = some u → ∃ u', upd H p o' a = some u' := fun a u e => by
    by_cases z : a = p
    · exact ⟨_, by rw [z]; exact upd_same⟩
    · exact ⟨u, by rw [upd_ne z]; exact e⟩
  have x : Xe F F H (upd H p o') := ⟨fun a u e n => by rw [upd_ne (fun z : a = p => n (by rw [z]; exact hm))]; exact e, tr', ⟨[], by simp, by simp⟩, rfl, rfl⟩
  refine ⟨x, S.step x ⟨S.cells.nd, by simpa using S.cells.len, fun m a y k1 k2 => ?_, fun a z => ?_, S.cells.dj, S.cells.dj2⟩⟩
  · rcases set_get k2 with ⟨rfl, z⟩ | ⟨q, z⟩
    · cases z
      rw [hp] at k1
      cases k1
      exact hc
    · refine (S.cells.cel m a y k1 z).up up (upd_ne fun w => ?_)
      obtain ⟨l1, e1⟩ := List.getElem?_eq_some_iff.mp k1
      obtain ⟨l2, e2⟩ := List.getElem?_eq_some_iff.mp hp
      exact q ((List.getElem_inj S.cells.nd).mp (e2.trans (w.symm.trans e1.symm)))
  · obtain ⟨u, e⟩ := S.cells.tr a z
    exact tr' a u e
/-- x.fld = a, of the object in a cell -/
def setOb (c i : Nat) (m : M D) : MS := fun e g => match e[i]? with
  | some (.v (.g n)) => (m e g).toS fun d g1 => if (cobD c (.g n) g1).isSome = true then .nx e (g1.set n (.ob c d)) else .bad
  | _ => .bad
theorem es_setOb (i : Nat) (hK : X.K = W.K) (K : ObOk W c fld) (ha : PE X a (tM W E ma)) (hN : X.N[i]? = some x := by rfl) (hv : Vis X.env.scope x := by first | exact Or.inl rfl | exact Or.inr (Or.inl rfl) | exact Or.inr (Or.inr rfl)) (hd : (x == ("__debug__" : Str)) = false := by decide)
    (hcd : (x == ("__classdict__" : Str)) = false := by decide) (hs : swapsWith a (some (.Attribute (.Name x p2) fld p3)) pos.line X.env = pure false := by rfl) : PS X (.Assign [.Attribute (.Name x p2) fld p3] a pos) (tMS W E (setOb c i ma)) :=
  weakS (ps_fld (pe_var hN hv hd hcd) ha hs) fun D0 σ H ⟨F, e, g, S, p⟩ => by
    unfold setOb at p
    cases q : e[i]? with
    | none => rw [q] at p; exact p.elim
    | some sl =>
      rw [q] at p
      cases sl with
      | no => exact p.elim
      | own ds => exact p.elim
      | v d0 =>
        cases d0 <;> try exact p.elim
        rename_i n
        refine ⟨F, e, g, S, p.toS.mono fun d g1 F1 H1 x1 c1 k1 v r => ?_⟩
        have S1 := S.step x1 c1
        obtain ⟨w, h1, rw'⟩ := S1.slots i _ q
        by_cases hq : (cobD c (.g n) g1).isSome = true
        · rw [if_pos hq] at k1
          obtain ⟨d1, hd1⟩ := Option.isSome_iff_exists.mp hq
          obtain ⟨n', ad, dx, u, e1, hg, hth, e2, hA, _⟩ := cob_of c1 rw' hd1
          cases e1
          subst e2
          have hm : ad ∈ F1.th := List.mem_of_getElem? hth
          have up : Up F1 F1 H1 (upd H1 ad (.ins (W.cl c) dx [(W.fd c, v)])) := Up.wr (.inr (.inr hm))
          obtain ⟨xs, S3⟩ := S1.wrG (ce := .ob c d) hth (⟨dx, v, upd_same, r.up up⟩ : CellR W F1 (upd H1 ad (.ins (W.cl c) dx [(W.fd c, v)])) ad (.ob c d))
          refine ⟨_, h1, ad, W.cl c, dx, [(W.fd c, u)], rfl, hA, by rw [hK]; exact K.cls, by rw [hK]; exact K.no, (by show 1 < 1000; decide), ?_⟩
          have e3 : putF fld v [(W.fd c, u)] = [(W.fd c, v)] := by
            rw [← K.fd]
            simp [putF]
          rw [e3]
          exact k1 F1 σ _ xs.xs S3
        · rw [if_neg hq] at k1
          exact k1.elim
/-- o.m(..) -/
def mthM (c n : Nat) (f : List D → List Cell → R D) (mo : M D) (ma : M (List D)) : M D := fun e g => (mo e g).bind fun x g1 => if (cobD c x g1).isSome = true then (ma e g1).bind fun ds g2 => if (cobD c x g2).isSome = true ∧ ds.length + 1 = n then f (x :: ds) g2 else .bad else .bad
theorem mth_q {F : Fb} {H : Hp} {g : List Cell} {x : D} {v : V} (cc : Cells W F H g) (rx : Rep W F H x v) (h : (cobD c x g).isSome = true) : ∃ a dx u, v = .ref a ∧ H a = some (.ins (W.cl c) dx [(W.fd c, u)]) := by
  obtain ⟨d, hd⟩ := Option.isSome_iff_exists.mp h
  obtain ⟨n, a, dx, u, _, _, _, h1, h2, _⟩ := cob_of cc rx hd
  exact ⟨a, dx, u, h1, h2⟩
theorem ev_mth {pl : Sem Bool} (hK : X.K = W.K) (K : ObOk W c fld) (hM : Meth W.K (W.cl c) m f) (hmf : ((fld : Str) == m) = false) (G : FnP X.prog X.w X.K X.mg X.base CX k f (spEv W n fs)) (hG : X.A.guards = some []) (hr : Room k X.A) (px : Passes CX X E) (ho : PE X o (tM W E mo)) (ha : PA X (e :: es) (tL W E mr))
    (hst : starEach (e :: es) X.env = (false, eval e X.env) :: starEach es X.env := by rfl) (hpl : (backTo pos (starEach es X.env)).any (·.1) = false := by rfl)
    (ht : eval (.Call (.Attribute o m apos) (e :: es) [] pos) X.env = (do
      let ov ← eval o X.env
      standAt apos.atName
      let (f, first) ← holding [ov] (getMethod ov m pl)
      callWith pos f first (backTo pos (starEach (e :: es) X.env)) (backToKw pos (keywordEach [] X.env))) := by rfl) :
    PE X (.Call (.Attribute o m apos) (e :: es) [] pos) (tM W E (mthM c n fs mo mr)) := by
  refine ⟨fun pins s σ H Q I ⟨F0, en, g0, S, q⟩ => ?_⟩
  have q1 := (Post.bind q).mono fun x g1 F1 H1 x1 c1 p1 v rx => (by
    obtain ⟨h1, p1⟩ := post_ite (g := g1) p1
    exact ⟨x, F1, g1, h1, rx, x1, c1, p1⟩ : ∃ x F1 g1, (cobD c x g1).isSome = true ∧ Rep W F1 H1 x v ∧ Xe F0 F1 H H1 ∧ Cells W F1 H1 g1 ∧ Post W E F1 H1 ((mr en g1).bind fun ds g2 => if (cobD c x g2).isSome = true ∧ ds.length + 1 = n then fs (x :: ds) g2 else .bad) fun d _ F' H' => ∀ w, Rep W F' H' d w → Q w H')
  refine PySem.W.methodCall_KW (pl := pl) (thn (ho.run pins s σ H _ I ⟨F0, en, g0, S, q1⟩) fun u s1 ⟨v, H1, I1, rv, x, F1, g1, h1, rx, x1, c1, p1⟩ => ?_) ht
  obtain ⟨ad, dx, w, e1, hA⟩ := mth_q c1 rx h1
  subst e1
  obtain rfl : u = Value.ref ad := rv
  have hM' : Meth X.K (W.cl c) m f := by rw [hK]; exact hM
  have hl : ([(W.fd c, w)] : List (Str × V)).lookup m = none := by
    rw [K.fd]
    have : (m == fld) = false := by rw [beq_eq_false_iff_ne] at hmf ⊢; exact fun z => hmf z.symm
    simp only [List.lookup, this]
  refine getmeth_ok I1 hA (by rw [hK]; exact K.cls) hM' hl ?_
  have q2 : tL W E mr σ H1 fun vs H2 => spEv W n fs (V.ref ad :: vs) H2 Q E := ⟨F1, en, g1, S.step x1 c1, (Post.bind p1).mono fun ds g2 F2 H2 x2 c2 p2 vs rr => by
    obtain ⟨h2, p2⟩ := post_ite (g := g2) p2
    exact sp_in (ds := x :: ds) c2 ⟨_, _, rfl, rx.up x2.up, rr⟩ (by rw [if_pos (show (x :: ds).length = n from h2.2)]; exact p2)⟩
  refine PySem.W.callWith_K (first := [.ref ad]) (h₀ := X.base) I.ok.mod.kin hM'.kp (thn (ha.run pos pins s1 σ H1 _ I1 q2) fun us s2 ⟨vs, H2, I2, r, h2⟩ => ⟨I2.kIn, ?_⟩) hst hpl
  exact run_fnP (us := .ref ad :: us) (vs := .ref ad :: vs) G hG hr px I2 (.cons rfl r) h2
theorem ev_mth0 {pl : Sem Bool} (hK : X.K = W.K) (K : ObOk W c fld) (hM : Meth W.K (W.cl c) m f) (hmf : ((fld : Str) == m) = false) (G : FnP X.prog X.w X.K X.mg X.base CX k f (spEv W n fs)) (hG : X.A.guards = some []) (hr : Room k X.A) (px : Passes CX X E) (ho : PE X o (tM W E mo))
    (ht : eval (.Call (.Attribute o m apos) [] [] pos) X.env = (do
      let ov ← eval o X.env
      standAt apos.atName
      let (f, first) ← holding [ov] (getMethod ov m pl)
      callWith pos f first (backTo pos (starEach [] X.env)) (backToKw pos (keywordEach [] X.env))) := by rfl) :
    PE X (.Call (.Attribute o m apos) [] [] pos) (tM W E (mthM c n fs mo nilM)) := by
  refine ⟨fun pins s σ H Q I ⟨F0, en, g0, S, q⟩ => ?_⟩
  have q1 := (Post.bind q).mono fun x g1 F1 H1 x1 c1 p1 v rx => (by
    obtain ⟨h1, p1⟩ := post_ite (g := g1) p1
    exact ⟨x, F1, g1, h1, rx, x1, c1, p1⟩ : ∃ x F1 g1, (cobD c x g1).isSome = true ∧ Rep W F1 H1 x v ∧ Xe F0 F1 H H1 ∧ Cells W F1 H1 g1 ∧ Post W E F1 H1 ((nilM en g1).bind fun ds g2 => if (cobD c x g2).isSome = true ∧ ds.length + 1 = n then fs (x :: ds) g2 else .bad) fun d _ F' H' => ∀ w, Rep W F' H' d w → Q w H')
  refine PySem.W.methodCall_KW (pl := pl) (thn (ho.run pins s σ H _ I ⟨F0, en, g0, S, q1⟩) fun u s1 ⟨v, H1, I1, rv, x, F1, g1, h1, rx, x1, c1, p1⟩ => ?_) ht
  obtain ⟨ad, dx, w, e1, hA⟩ := mth_q c1 rx h1
  subst e1
  obtain rfl : u = Value.ref ad := rv
  have hM' : Meth X.K (W.cl c) m f := by rw [hK]; exact hM
  have hl : ([(W.fd c, w)] : List (Str × V)).lookup m = none := by
    rw [K.fd]
    have : (m == fld) = false := by rw [beq_eq_false_iff_ne] at hmf ⊢; exact fun z => hmf z.symm
    simp only [List.lookup, this]
  refine getmeth_ok I1 hA (by rw [hK]; exact K.cls) hM' hl ?_
  have p1 : Post W E F1 H1 (if (cobD c x g1).isSome = true ∧ ([] : List D).length + 1 = n then fs [x] g1 else .bad) fun d _ F' H' => ∀ w, Rep W F' H' d w → Q w H' := p1
  obtain ⟨h2, p2⟩ := post_ite (g := g1) p1
  refine PySem.W.callWith_K0 (first := [.ref ad]) I1.kIn hM'.kp (run_fnP (us := [.ref ad]) (vs := [.ref ad]) G hG hr px I1 (.cons rfl .nil) (sp_in (ds := [x]) c1 (RepL.one rx) (by rw [if_pos (show [x].length = n from h2.2)]; exact p2)))
/-- o.p, a property -/
def prpM (c : Nat) (f : List D → List Cell → R D) (mo : M D) : M D := fun e g => (mo e g).bind fun x g1 => if (cobD c x g1).isSome = true then f [x] g1 else .bad
theorem ev_prpS {p : Addr} {fd : FuncData} {ps : List Str} (hK : X.K = W.K) (K : ObOk W c fld) (hp : PropOf W.K (W.cl c) m p f) (G : FnOk X.prog X.w X.K X.mg X.base CX0 k f fd ps (spEv W 1 fs)) (hr : Room (k + 1) X.A) (hb : Binds W.K fd ps []) (ho : PE X o (tM W E mo))
    (hba : attributeBase o m X.env (eval o X.env) = eval o X.env := by rfl) : PE X (.Attribute o m pos) (tM W E (prpM c fs mo)) := by
  exact weakE (pe_prop (CX := CX0) (E := E) (dvs := []) (ds := []) ho (by rw [hK]; exact K.cls) (by rw [hK]; exact hp) G hr (by rw [hK]; exact hb) .nil pass00 hba) fun σ H Q ⟨F, e, g, S, q⟩ => by
    refine ⟨F, e, g, S, (Post.bind q).mono fun x g1 F1 H1 x1 c1 p1 v rx => ?_⟩
    obtain ⟨h1, p1⟩ := post_ite (g := g1) p1
    obtain ⟨ad, dx, w, e1, hA⟩ := mth_q c1 rx h1
    subst e1
    exact ⟨ad, dx, _, rfl, hA, sp_in (n := 1) (ds := [x]) c1 (RepL.one rx) (by rw [if_pos (show [x].length = 1 from rfl)]; exact p1)⟩
end
/-! ### a new object in a cell -/
section
variable {W : Wd} {E : XK} {X : Cx} {CX : CXT} {c k n : Nat} {f : Addr} {fs : List D → List Cell → R D} {x : Str} {e : Expr} {es : List Expr} {p1 pos : Pos} {ma mk : M (List D)} {F : Fb} {H : Hp} {gg : List Cell} {a dx : Addr}
theorem mk_backC {F' : Fb} {H' : Hp} {g' : List Cell} {d : D} {v : V} (cc : Cells W F H gg) (ha : H a = none) (hd : H dx = none) (x : Xe (F.inn a) F' (mk0 W c H a dx) H') (c' : Cells W F' H' g') (r : Rep W F' H' d v) :
    Xe F ⟨F.nu, F.om, F'.th ++ [a]⟩ H (upd H' a (.ins (W.cl c) dx [(W.fd c, v)])) ∧ Cells W ⟨F.nu, F.om, F'.th ++ [a]⟩ (upd H' a (.ins (W.cl c) dx [(W.fd c, v)])) (g' ++ [.ob c d]) ∧ (F'.th ++ [a])[g'.length]? = some a := by
  obtain ⟨h1, h2, _, h4⟩ := mk_back (o' := .ins (W.cl c) dx [(W.fd c, v)]) cc ha hd x c'
  have hnu : F'.nu = a :: (F.nu ++ F.om) := x.nu
  have na : a ∉ F'.th := fun z => h4 (.inr (.inr z))
  have up3 : Up F' ⟨F.nu, F.om, F'.th ++ [a]⟩ H' (upd H' a (.ins (W.cl c) dx [(W.fd c, v)])) := by
    refine ⟨fun b u e nb => ?_, [a], rfl⟩
    have hb : b ≠ a := fun z => nb (.inl (by rw [hnu, z]; exact List.mem_cons_self))
    refine ⟨by rw [upd_ne hb]; exact e, fun z => ?_⟩
    rcases z with z | z | z
    · exact nb (.inl (by rw [hnu]; exact List.mem_cons_of_mem _ (List.mem_append_left _ z)))
    · exact nb (.inl (by rw [hnu]; exact List.mem_cons_of_mem _ (List.mem_append_right _ z)))
    · rcases List.mem_append.mp z with z | z
      · exact nb (.inr (.inr z))
      · exact hb (List.mem_singleton.mp z)
  have hl : F'.th.length = g'.length := c'.len
  refine ⟨⟨h1.keep, h1.st, ?_, rfl, rfl⟩, ⟨?_, ?_, fun m b y k1 k2 => ?_, fun b z => ?_, fun b hb => ?_, cc.dj2⟩, ?_⟩
  · obtain ⟨more, e1, e2⟩ := h1.th
    refine ⟨more ++ [a], ?_, fun b hb => ?_⟩
    · show F'.th ++ [a] = F.th ++ (more ++ [a])
      rw [← List.append_assoc]
      exact congrArg (· ++ [a]) e1
    · rcases List.mem_append.mp hb with z | z
      · exact e2 b z
      · rw [List.mem_singleton.mp z]; exact ha
  · rw [List.nodup_append]
    exact ⟨c'.nd, by simp, fun b hb b' hb' z => na (by rw [← List.mem_singleton.mp hb', ← z]; exact hb)⟩
  · rw [List.length_append, List.length_append, hl]; rfl
  · have k1 : (F'.th ++ [a])[m]? = some b := k1
    by_cases hm : m < F'.th.length
    · rw [List.getElem?_append_left hm] at k1
      rw [List.getElem?_append_left (by omega)] at k2
      exact (c'.cel m b y k1 k2).up up3 (upd_ne fun z => na (by rw [← z]; exact List.mem_of_getElem? k1))
    · rw [List.getElem?_append_right (by omega)] at k1
      rw [List.getElem?_append_right (by omega)] at k2
      have e1 : b = a := List.mem_singleton.mp (List.mem_of_getElem? k1)
      have e2 : y = .ob c d := List.mem_singleton.mp (List.mem_of_getElem? k2)
      subst e1 e2
      exact ⟨dx, v, upd_same, r.up up3⟩
  · by_cases hb : b = a
    · exact ⟨_, by rw [hb]; exact upd_same⟩
    · refine h2.tr b ?_
      rcases z with z | z | z
      · exact .inl z
      · exact .inr (.inl z)
      · rcases List.mem_append.mp z with z | z
        · exact .inr (.inr z)
        · exact absurd (List.mem_singleton.mp z) hb
  · rcases List.mem_append.mp hb with z | z
    · exact h2.dj b z
    · rw [List.mem_singleton.mp z]
      exact ⟨fun w => h4 (.inl w), fun w => h4 (.inr (.inl w))⟩
  · rw [List.getElem?_append_right (by omega), hl, Nat.sub_self]
    rfl
def mkCM (c : Nat) (fs : List D → List Cell → R D) (ma : M (List D)) : M D := fun e g => (ma e g).bind fun ds g1 => (fs ds g1).bind fun d g2 => .ok (.g g2.length) (g2 ++ [.ob c d])
theorem sp_makeC {ds : List D} {vs : List V} {Q : VK} (cc : Cells W F H gg) (rr : RepL W F H ds vs) (q : Post W E F H ((fs ds gg).bind fun d g2 => R.ok (.g g2.length) (g2 ++ [.ob c d])) fun d _ F' H' => ∀ v, Rep W F' H' d v → Q v H')
    (ha : H a = none) (hd : H dx = none) : spIn W c fs (V.ref a :: vs) (mk0 W c H a dx) (fun v H2 => v = .non ∧ Q (.ref a) H2) E := by
  refine ⟨a, dx, vs, a :: (F.nu ++ F.om), F.th, ds, gg, rfl, upd_same, List.mem_cons_self, mk0_cells cc ha hd, rr.up (mk0_up ha hd), ?_⟩
  revert q
  generalize fs ds gg = r
  intro q
  cases r with
  | ok d g' =>
    intro F' H' x c' v rv
    obtain ⟨h1, h2, h3⟩ := mk_backC cc ha hd x c' rv
    exact ⟨rfl, q _ _ h1 h2 _ ⟨a, h3, rfl⟩⟩
  | ex cc' d g' =>
    intro F' H' dx' v x c' rv hx
    have hc : H' a = some (.ins (W.cl c) dx []) := x.keep a _ upd_same fun z => by
      obtain ⟨u, hu⟩ := cc.tr a (.inr (.inr z))
      exact ne_of_none hu ha rfl
    obtain ⟨h1, h2, h3, h4⟩ := mk_back (o' := .ins (W.cl c) dx []) cc ha hd x c'
    have e : upd H' a (.ins (W.cl c) dx []) = H' := by
      funext b
      by_cases hb : b = a
      · rw [hb, upd_same, hc]
      · rw [upd_ne hb]
    rw [e] at h1 h2 h3
    exact q _ H' dx' v h1 h2 (rv.up h3) (hx.up h3)
  | bad => exact q.elim
theorem ev_makeC (M : Mk X.K (W.cl c) f) (G : FnP X.prog X.w X.K X.mg X.base CX k f (spIn W c fs)) (hG : X.A.guards = some []) (hr : Room (k + 1) X.A) (px : Passes CX X E) (hg : Gl X x) (hm : X.mg x = some (.ref (W.cl c))) (ha : PA X (e :: es) (tL W E ma))
    (hdb : (x == ("__debug__" : Str)) = false := by decide) (he : starEach (e :: es) X.env = (false, eval e X.env) :: starEach es X.env := by rfl) (hpl : (backTo pos (starEach es X.env)).any (·.1) = false := by rfl) : PE X (.Call (.Name x p1) (e :: es) [] pos) (tM W E (mkCM c fs ma)) := by
  refine ⟨fun pins s σ H Q I ⟨F0, en, g, S, q⟩ => wpAny_Call_Name_kw (ld_glob I hg hm ?_ hdb)⟩
  refine PySem.W.callWith_K (h₀ := X.base) I.ok.mod.kin M.kp (thn (ha.run pos pins s σ H _ I ⟨F0, en, g, S, (Post.bind q).mono fun ds g1 F1 H1 x1 c1 k1 vs r => (fun a dx h1 h2 _ => sp_makeC c1 r k1 h1 h2 : ∀ a dx, H1 a = Option.none → H1 dx = Option.none → dx ≠ a → spIn W c fs (V.ref a :: vs) (mk0 W c H1 a dx) (fun v H2 => v = .non ∧ Q (.ref a) H2) E)⟩) fun us s1 ⟨vs, H1, I1, r, q⟩ => ⟨I1.kIn, ?_⟩) he hpl
  exact run_mkP M G hG hr px I1 r q
/-! ### C(e, k = v) -/
theorem run_mkK {fd : FuncData} {ps ks : List Str} {sp : Sp} {g : List Value → List Value → List Value} {gV : List V → List V → List V} {C : Addr} {pins : List (Addr × Obj)} {σ : L2.St} {s : Shared} {Q : VK} {us ws : List Value} {vs zs : List V} (M : Mk X.K C f) (G : FnG X.prog X.w X.K X.mg X.base CX k f fd ps sp) (hG : X.A.guards = some []) (hr : Room (k + 1) X.A) (hb : KBn X.K fd ps (n + 1) ks g gV) (px : Passes CX X E)
    (I : Inv X pins σ H s) (r : Vals vs us) (rz : Vals zs ws) (l1 : vs.length = n) (l2 : zs.length = ks.length)
    (h : ∀ x dx, H x = Option.none → H dx = Option.none → dx ≠ x → sp (gV (V.ref x :: vs) zs) (upd (upd H dx (.own x)) x (.ins C dx [])) (fun v H2 => v = .non ∧ Q (.ref x) H2) E) :
    wpAny (model X.prog X.w) X.A (call (.ref C) us (ks.zip ws)) (EP X pins σ Q) X.xe s := by
  have hq := h (s.heap.objs.size + 1) s.heap.objs.size (I.hok.fresh (Nat.le_succ _)) (I.hok.fresh (Nat.le_refl _)) (Nat.ne_of_lt (Nat.lt_succ_self _))
  have I2 := Inv.made (C := C) I
  have r1 : Vals (V.ref (s.heap.objs.size + 1) :: vs) (Value.ref (s.heap.objs.size + 1) :: us) := .cons rfl r
  have n1 : (Value.ref (s.heap.objs.size + 1) :: us).length = n + 1 := by rw [List.length_cons, ← r.length, l1]
  refine wpAny_call (make_map (f := f) I.kIn M.makes M.init (beq_iff_eq.mp M.fn) (codeAny_mono (G.go _ X.stack _ _ ⟨Value.ref (s.heap.objs.size + 1) :: us, ks.zip ws⟩ (g (Value.ref (s.heap.objs.size + 1) :: us) ws) _ _ E hG (hr.make C us (ks.zip ws))
    (I2.env0.make C us (ks.zip ws)) (hb.to _ (Value.ref (s.heap.objs.size + 1) :: us) ws I2.kIn n1 (rz.length.symm.trans l2)) (hb.rel r1 rz) hq) fun r s' hq' => ?_))
  cases r with
  | error e => exact px pins σ _ _ e s' I2 hq'
  | ok fl =>
    cases fl with
    | ret u =>
      obtain ⟨v, H', I3, rv, ev, q3⟩ := I2.after hq'
      subst ev
      exact ⟨rv, ⟨V.ref (s.heap.objs.size + 1), H', I3, rfl, q3⟩⟩
    | next => exact False.elim hq'
    | brk => exact False.elim hq'
    | cont => exact False.elim hq'
end
/-- an __init__ of plain parameters, by how many values there are -/
def inP (n : Nat) (fs : List D → List Cell → R D) : List D → List Cell → R D := fun ds g => if ds.length + 1 = n then fs ds g else .bad
/-- .. called with less, the rest by default -/
def inD0 (n : Nat) (dfl : List D) (fs : List D → List Cell → R D) : List D → List Cell → R D := fun ds g => if ds.length + dfl.length + 1 = n then inP n fs (ds ++ dfl) g else .bad
theorem spIn_len {W : Wd} {c n : Nat} {fs : List D → List Cell → R D} {vs : List V} {H : Hp} {Q : VK} {E : XK} (h : spIn W c (inP n fs) vs H Q E) : vs.length = n := by
  obtain ⟨x, dx, rest, nu, th, ds, g, rfl, _, _, _, r, p⟩ := h
  unfold inP at p
  obtain ⟨hl, _⟩ := post_ite (g := g) p
  rw [List.length_cons, ← r.length]
  exact hl
theorem in_plain {P : Program} {w : World} {mg : Str → Option Value} {base : Heap} {W : Wd} {k c n : Nat} {x0 qual fld : Str} {st : Stmt} {f : Addr} {fd : FuncData} {N ps : List Str} {kws : List (Str × V)} {t : M Bool} {r : MS} {m : M D} {cnd e : Expr} {rs : List Stmt} {p1 p2 p3 p4 : Pos}
    (F : FunD W.K x0 qual (defArgs st) (defBody st) (defScope st) [] kws f fd) (S : FnScope N ps (defScope st)) (hn : ps.length = n) (hN : N[0]? = some ("self" : Str))
    (hbody : defBody st = [.If cnd rs [] p1, .Assign [.Attribute (.Name "self" p2) fld p3] e p4]) (K : ObOk W c fld)
    (h : ∀ (cdv : Value) (A : Around) (out : List PySem.Env) (s : Shared) (H : Hp) (E : XK), (A.deeper (envOfC qual (defScope st) s.heap.objs.size f cdv)).guards = some [] → Room k (A.deeper (envOfC qual (defScope st) s.heap.objs.size f cdv)) →
      PT (cxOf CX0 P w W.K mg base N qual (defScope st) f cdv A out s H E).nox cnd (tB W E t) ∧ PSs (cxOf CX0 P w W.K mg base N qual (defScope st) f cdv A out s H E).nox rs (tMS W E r) ∧ PE (cxOf CX0 P w W.K mg base N qual (defScope st) f cdv A out s H E).nox e (tM W E m) ∧
      Vis (cxOf CX0 P w W.K mg base N qual (defScope st) f cdv A out s H E).nox.env.scope "self" ∧ swapsWith e (some (.Attribute (.Name "self" p2) fld p3)) p4.line (cxOf CX0 P w W.K mg base N qual (defScope st) f cdv A out s H E).nox.env = pure false) :
    FnG P w W.K mg base CX0 (k + 1) f fd ps (spIn W c (inP n (inM N.length t r m))) := by
  subst hn
  obtain ⟨oc, od, dV, kV, doc, pm, an, cdv, ct, osl, rfl, lk, hcd, _, _⟩ := F.ex
  refine fnG_of lk hcd S (fun vs H Q E q => spIn_len q) fun A out s H vs Q E hg hr ⟨x, dx, rest, nu, th, ds, g, ev, hx, hxn, cc, rr, p⟩ => ?_
  subst ev
  unfold inP at p
  obtain ⟨hl, p⟩ := post_ite (g := g) p
  obtain ⟨d1, d2, d3, d4, d5⟩ := h cdv A out s H E hg hr
  have S0 := inE_st (N := N) (x := x) cc rr (List.getElem?_eq_some_iff.mp hN).1
  obtain ⟨tt, h1, h2⟩ := in_body (p1 := p1) (Q := Q) (dx := dx) hN d4 d1 d2 d3 d5 K.cls K.no K.fd S0 (by
    show ((V.ref x :: rest).map some ++ _)[0]? = _
    rfl) hx hxn p
  exact ⟨tt, by rw [hbody]; exact h1.nox, h2⟩
theorem in_dfl {P : Program} {w : World} {mg : Str → Option Value} {base : Heap} {W : Wd} {CX : CXT} {k c n : Nat} {K : PySem.W.Frag} {f : Addr} {fd : FuncData} {ps : List Str} {fs : List D → List Cell → R D} {dfl : List D} {dvs : List V} (G : FnG P w K mg base CX k f fd ps (spIn W c (inP n fs))) (bd : ∃ ds, Vals dvs ds ∧ Binds K fd ps ds)
    (hr : ∀ F H, RepL W F H dfl dvs) : FnP P w K mg base CX k f (spIn W c (inD0 n dfl fs)) := by
  obtain ⟨ds, hd, hb⟩ := bd
  refine fun A out s H us vs Q E hg hro e0 rv ⟨x, dx, rest, nu, th, xs, g, ev, hx, hxn, cc, rr, p⟩ => G.pos hb hd A out s H us vs Q E hg hro e0 rv ?_
  subst ev
  unfold inD0 at p
  obtain ⟨hl, p⟩ := post_ite (g := g) p
  exact ⟨x, dx, rest ++ dvs, nu, th, xs ++ dfl, g, rfl, hx, hxn, cc, rr.append (hr _ _), p⟩
section
variable {W : Wd} {E : XK} {X : Cx} {CX : CXT} {c k n : Nat} {f : Addr} {fd : FuncData} {ps ks : List Str} {fs : List D → List Cell → R D} {x : Str} {e : Expr} {es : List Expr} {p1 pos kpos : Pos} {ma mk : M (List D)} {m : M D} {kws : List Keyword} {nm : Option Str} {g : List Value → List Value → List Value}
/-- C(e, .., k = v): the keywords' values stand behind the others -/
def mkKM (c n k : Nat) (fs : List D → List Cell → R D) (ma mk : M (List D)) : M D := fun e g => (ma e g).bind fun ds g1 => (mk e g1).bind fun zs g2 => if ds.length = n ∧ zs.length = k then (fs (ds ++ zs) g2).bind fun d g3 => .ok (.g g3.length) (g3 ++ [.ob c d]) else .bad
theorem ek_nil : PK X [] (tL W E nilM) := ⟨fun pos pins s σ H Q I ⟨F, en, g, S, p⟩ => pk_nil.run pos pins s σ H Q I (p F H .refl S.cells [] rfl)⟩
theorem ek_one (h : PE X e (tM W E m)) : PK X [⟨nm, e, kpos⟩] (tL W E (consM m nilM)) := ⟨fun pos pins s σ H Q I ⟨F, en, g, S, p⟩ => (pk_cons h pk_nil).run pos pins s σ H Q I (by
  refine ⟨F, en, g, S, (Post.bind p).mono fun d g1 F1 H1 x1 c1 p1 v rv => ?_⟩
  exact p1 F1 H1 .refl c1 [v] (RepL.one rv))⟩
theorem ev_makeK (M : Mk X.K (W.cl c) f) (G : FnG X.prog X.w X.K X.mg X.base CX k f fd ps (spIn W c fs)) (hG : X.A.guards = some []) (hr : Room (k + 1) X.A) (px : Passes CX X E) (hb0 : ∃ g, KBn X.K fd ps (n + 1) ks g (fun vs zs => vs ++ ([] ++ zs))) (hg : Gl X x) (hm : X.mg x = some (.ref (W.cl c))) (ha : PA X (e :: es) (tL W E ma)) (hkw : PK X kws (tL W E mk))
    (hall : (backToKw pos (keywordEach kws X.env)).all (·.1.isSome) = true := by rfl) (hks : (backToKw pos (keywordEach kws X.env)).filterMap (·.1) = ks := by rfl) (hdb : (x == ("__debug__" : Str)) = false := by decide)
    (he : starEach (e :: es) X.env = (false, eval e X.env) :: starEach es X.env := by rfl) (hpl : ((backTo pos (starEach (e :: es) X.env)).any (·.1) || (backToKw pos (keywordEach kws X.env)).any (·.1.isNone)) = false := by rfl) :
    PE X (.Call (.Name x p1) (e :: es) kws pos) (tM W E (mkKM c n ks.length fs ma mk)) := by
  obtain ⟨gb, hb⟩ := hb0
  refine ⟨fun pins s σ H Q I ⟨F0, en, g, S, q⟩ => wpAny_Call_Name_kw (ld_glob I hg hm ?_ hdb)⟩
  have q1 : tL W E ma σ H fun vs H1 => tL W E mk σ H1 fun zs H2 => vs.length = n ∧ zs.length = ks.length ∧ ∀ a dx, H2 a = Option.none → H2 dx = Option.none → dx ≠ a → spIn W c fs (V.ref a :: (vs ++ zs)) (mk0 W c H2 a dx) (fun v H2 => v = .non ∧ Q (.ref a) H2) E :=
    ⟨F0, en, g, S, (Post.bind q).mono fun ds g1 F1 H1 x1 c1 k1 vs r => ⟨F1, en, g1, S.step x1 c1, (Post.bind k1).mono fun zs g2 F2 H2 x2 c2 k2 us r2 => by
      obtain ⟨h1, k2⟩ := post_ite (g := g2) k2
      exact ⟨by rw [← r.length]; exact h1.1, by rw [← r2.length]; exact h1.2, fun a dx n1 n2 _ => sp_makeC c2 ((r.up x2.up).append r2) k2 n1 n2⟩⟩⟩
  refine PySem.W.callWith_KW (h₀ := X.base) I.ok.mod.kin M.kp hall (thn (ha.run pos pins s σ H _ I q1) fun us s1 ⟨vs, H1, I1, r, q⟩ => ?_) hpl he
  refine thn (hkw.run pos pins s1 σ H1 _ I1 q) fun ws s2 ⟨zs, H2, I2, rz, l1, l2, q2⟩ => ⟨I2.kIn, ?_⟩
  rw [hks]
  exact run_mkK M G hG hr hb px I2 r rz l1 l2 q2
end
/-- a method's def with keyword-only defaults -/
structure DmK (K : PySem.W.Frag) (x qual : Str) (st : Stmt) (kws : List (Str × V)) where
  f : Addr
  fd : FuncData
  fn : FunD K x qual (defArgs st) (defBody st) (defScope st) [] kws f fd
end Ev

/-! Ev29: dicts of ints: a cell while they are filled, data behind the call that made them. -/
namespace Ev
open PySem PySem.Spec PyProof.Rows L2
def valI (kvs : List (Int × Int)) (k : Int) : Option Int := (kvs.find? fun p => decide (p.1 = k)).map (·.2)
theorem key_dec (k : Int) : (fun p : Int × Int => decide ((dkv p).1 = (Sum.inl k : Key))) = fun p => decide (p.1 = k) := by
  funext p
  exact decide_eq_decide.mpr ⟨fun h => Sum.inl.inj h, fun h => congrArg Sum.inl h⟩
theorem valI_ok (kvs : List (Int × Int)) (k : Int) : valV (kvs.map dkv) (Sum.inl k : Key) = (valI kvs k).map V.int := by
  unfold valV valI
  rw [List.find?_map, show ((fun kv : Key × V => decide (kv.1 = (Sum.inl k : Key))) ∘ dkv) = fun p : Int × Int => decide (p.1 = k) from key_dec k, Option.map_map, Option.map_map]
  rfl
def putI (kvs : List (Int × Int)) (k v : Int) : List (Int × Int) := if (kvs.any fun p => decide (p.1 = k)) = true then kvs.map (fun p => if p.1 = k then (p.1, v) else p) else kvs ++ [(k, v)]
theorem putI_ok (kvs : List (Int × Int)) (k v : Int) : putK (kvs.map dkv) (Sum.inl k : Key) (V.int v) = (putI kvs k v).map dkv := by
  unfold putK putI
  rw [List.any_map, show ((fun kv : Key × V => decide (kv.1 = (Sum.inl k : Key))) ∘ dkv) = fun p : Int × Int => decide (p.1 = k) from key_dec k]
  split
  · rw [List.map_map, List.map_map]
    refine List.map_congr_left fun p _ => ?_
    show (if (dkv p).1 = (Sum.inl k : Key) then ((dkv p).1, V.int v) else dkv p) = dkv (if p.1 = k then (p.1, v) else p)
    by_cases h : p.1 = k
    · rw [if_pos (show (dkv p).1 = (Sum.inl k : Key) from congrArg Sum.inl h), if_pos h]; rfl
    · rw [if_neg (show ¬ (dkv p).1 = (Sum.inl k : Key) from fun z => h (Sum.inl.inj z)), if_neg h]
  · rw [List.map_append]; rfl
def dctOf (x : D) (g : List Cell) : Option (List (Int × Int)) := match x with
  | .dct kvs => some kvs
  | .g n => match g[n]? with
    | some (.dct kvs) => some kvs
    | _ => none
  | _ => none
section
variable {W : Wd} {E : XK} {X : Cx} {F : Fb} {H : Hp} {g : List Cell}
theorem dct_of {x : D} {v : V} {kvs : List (Int × Int)} (cc : Cells W F H g) (rx : Rep W F H x v) (h : dctOf x g = some kvs) : ∃ a, v = .ref a ∧ Rd H a (.dK (kvs.map dkv)) := by
  cases x <;> try (cases h; done)
  · rename_i n
    unfold dctOf at h
    simp only at h
    cases q : g[n]? with
    | none => rw [q] at h; cases h
    | some ce =>
      rw [q] at h
      cases ce <;> try (cases h; done)
      cases h
      obtain ⟨a, h1, rfl⟩ := rx
      exact ⟨a, rfl, .inl (cc.cel n a _ h1 q)⟩
  · cases h
    obtain ⟨a, rfl, h1, _⟩ := rx
    exact ⟨a, rfl, h1⟩
theorem dget_of {a : Addr} {kvs : List (Int × Int)} (h : Rd H a (.dK (kvs.map dkv))) (k : Int) : DGet H a (.int k) ((valI kvs k).map V.int) := .inl ⟨_, Sum.inl k, h, rfl, (valI_ok kvs k).symm⟩
/-- d[k] -/
def dgetD : D → D → List Cell → Option D := fun x y g => match dctOf x g, y with
  | some kvs, .int k => (valI kvs k).map D.int
  | _, _ => none
/-- k in d, k not in d -/
def dinD (neg : Bool) : D → D → List Cell → Option D := fun y x g => match y, dctOf x g with
  | .int k, some kvs => some (.bl (if neg then !(valI kvs k).isSome else (valI kvs k).isSome))
  | _, _ => none
variable {k : Nat} {o i value : Expr} {pos pos' : Pos} {mo mi mv : M D}
theorem ev_dget (hr : Room k X.A) (ho : PE X o (tM W E mo)) (hi : PE X i (tM W E mi)) (hs : NoSl i) : PE X (.Subscript o i pos) (tM W E (opM dgetD mo mi)) :=
  weakE (pe_dget (by have := hr.un; omega) ho hi hs) fun σ H Q ⟨F, e, g, S, p⟩ => by
    refine ⟨F, e, g, S, (Post.bind p).mono fun x g1 F1 H1 x1 c1 p1 v rx => ?_⟩
    refine ⟨F1, e, g1, S.step x1 c1, (Post.bind p1).mono fun y g2 F2 H2 x2 c2 p2 u ry => ?_⟩
    obtain ⟨d, hd, kk⟩ := post_of p2
    unfold dgetD at hd
    cases q : dctOf x g2 with
    | none => rw [q] at hd; cases hd
    | some kvs =>
      rw [q] at hd
      cases y <;> try (cases hd; done)
      rename_i key
      obtain ⟨a, e1, h1⟩ := dct_of c2 (rx.up x2.up) q
      cases (show u = V.int key from ry)
      simp only at hd
      cases w : valI kvs key with
      | none => rw [w] at hd; cases hd
      | some z =>
        rw [w] at hd
        cases hd
        refine ⟨a, .int z, e1, ?_, kk F2 H2 .refl c2 _ (rep_int _)⟩
        have := dget_of h1 key
        rw [w] at this
        exact this
theorem r_din {neg : Bool} {σ : L2.St} {H : Hp} {Q : VK} (h : tM W E (opM (dinD neg) mi mo) σ H Q) : tM W E mi σ H fun y H1 => tM W E mo σ H1 fun x H2 => ∃ a o, x = .ref a ∧ DGet H2 a y o ∧ Q (.bl (if neg then !o.isSome else o.isSome)) H2 := by
  obtain ⟨F, e, g, S, p⟩ := h
  refine ⟨F, e, g, S, (Post.bind p).mono fun y g1 F1 H1 x1 c1 p1 u ry => ?_⟩
  refine ⟨F1, e, g1, S.step x1 c1, (Post.bind p1).mono fun x g2 F2 H2 x2 c2 p2 v rx => ?_⟩
  obtain ⟨d, hd, kk⟩ := post_of p2
  unfold dinD at hd
  cases y <;> try (cases hd; done)
  rename_i key
  cases q : dctOf x g2 with
  | none => rw [q] at hd; cases hd
  | some kvs =>
    rw [q] at hd
    cases hd
    obtain ⟨a, e1, h1⟩ := dct_of c2 rx q
    cases (show u = V.int key from ry)
    refine ⟨a, _, e1, dget_of h1 key, ?_⟩
    rw [Option.isSome_map]
    exact kk F2 H2 .refl c2 _ (rep_bl _)
theorem ev_dnin (hr : Room k X.A) (hi : PE X i (tM W E mi)) (ho : PE X o (tM W E mo)) (hm : behindInMarks .NotIn o = false := by rfl) : PE X (.Compare i [.NotIn] [o] pos) (tM W E (opM (dinD true) mi mo)) :=
  weakE (pe_cmp (pc_dnotin (by have := hr.un; omega) hi ho) hm) fun _ _ _ h => r_din h
theorem ev_din (hr : Room k X.A) (hi : PE X i (tM W E mi)) (ho : PE X o (tM W E mo)) (hm : behindInMarks .In o = false := by rfl) : PE X (.Compare i [.In] [o] pos) (tM W E (opM (dinD false) mi mo)) :=
  weakE (pe_cmp (pc_din (by have := hr.un; omega) hi ho) hm) fun _ _ _ h => r_din h
theorem ev_dninT (hr : Room k X.A) (hi : PE X i (tM W E mi)) (ho : PE X o (tM W E mo)) (hm : behindInMarks .NotIn o = false := by rfl) : PT X (.Compare i [.NotIn] [o] pos) (tB W E (boolM (opM (dinD true) mi mo))) :=
  weakT (pt_cmp (pc_dnotin (by have := hr.un; omega) hi ho) hm) fun σ H Q hh => r_din (r_bool (fun _ _ _ => True) hh)
theorem ev_dinT (hr : Room k X.A) (hi : PE X i (tM W E mi)) (ho : PE X o (tM W E mo)) (hm : behindInMarks .In o = false := by rfl) : PT X (.Compare i [.In] [o] pos) (tB W E (boolM (opM (dinD false) mi mo))) :=
  weakT (pt_cmp (pc_din (by have := hr.un; omega) hi ho) hm) fun σ H Q hh => r_din (r_bool (fun _ _ _ => True) hh)
/-- d[k] = v, d in a cell -/
def dputS (mv mo mi : M D) : MS := fun e g => (mv e g).toS fun d g1 => (mo e g1).toS fun x g2 => (mi e g2).toS fun y g3 => match d, x, y with
  | .int v, .g n, .int k => match g3[n]? with
    | some (.dct kvs) => if kvs.length < 16777216 then .nx e (g3.set n (.dct (putI kvs k v))) else .bad
    | _ => .bad
  | _, _, _ => .bad
theorem es_dput (hr : Room k X.A) (hv : PE X value (tM W E mv)) (ho : PE X o (tM W E mo)) (hi : PE X i (tM W E mi)) (hs : swapsWith value (some (.Subscript o i pos')) pos.line X.env = pure false) :
    PS X (.Assign [.Subscript o i pos'] value pos) (tMS W E (dputS mv mo mi)) := weakS (ps_dput (by have := hr.un; omega) ho hi hv hs) fun D0 σ H ⟨F, e, g, S, p⟩ => by
  refine ⟨F, e, g, S, p.toS.mono fun d g1 F1 H1 x1 c1 p1 v rv => ?_⟩
  refine ⟨F1, e, g1, S.step x1 c1, p1.toS.mono fun x g2 F2 H2 x2 c2 p2 u ru => ?_⟩
  refine ⟨F2, e, g2, (S.step x1 c1).step x2 c2, p2.toS.mono fun y g3 F3 H3 x3 c3 p3 w rw' => ?_⟩
  cases d <;> try exact p3.elim
  rename_i dv
  cases x <;> try exact p3.elim
  rename_i n
  cases y <;> try exact p3.elim
  rename_i key
  simp only at p3
  cases q : g3[n]? with
  | none => rw [q] at p3; exact p3.elim
  | some ce =>
    rw [q] at p3
    cases ce <;> try exact p3.elim
    rename_i kvs
    simp only at p3
    split at p3
    · rename_i hl
      cases (show v = V.int dv from rv)
      cases (show w = V.int key from rw')
      obtain ⟨a, h1, rfl⟩ := ru.up x3.up
      have hc : H3 a = some (.dK (kvs.map dkv)) := c3.cel n a _ h1 q
      have S3 := ((S.step x1 c1).step x2 c2).step x3 c3
      obtain ⟨xs, S4⟩ := S3.wrG (ce := .dct (putI kvs key dv)) h1 (upd_same : upd H3 a (.dK ((putI kvs key dv).map dkv)) a = _)
      refine ⟨a, _, rfl, DPut.k (k := Sum.inl key) hc (by rw [List.length_map, sizeLine_eq]; exact hl), ?_⟩
      rw [putI_ok]
      exact p3 F3 σ _ xs.xs S4
    · exact p3.elim
/-! ### new ones -/
theorem cell_new {a : Addr} {o : HO} {ce : Cell} (c : Cells W F H g) (na : H a = none) (hc : CellR W ⟨F.nu, F.om, F.th ++ [a]⟩ (upd H a o) a ce) :
    Xe F ⟨F.nu, F.om, F.th ++ [a]⟩ H (upd H a o) ∧ Cells W ⟨F.nu, F.om, F.th ++ [a]⟩ (upd H a o) (g ++ [ce]) ∧ (F.th ++ [a])[g.length]? = some a := by
  have nh : ¬ F.has a := c.none na
  have up : Up F ⟨F.nu, F.om, F.th ++ [a]⟩ H (upd H a o) := by
    refine ⟨fun b u e n => ⟨keep_new na b u e, fun z => ?_⟩, [a], rfl⟩
    rcases z with z | z | z
    · exact n (.inl z)
    · exact n (.inr (.inl z))
    · rcases List.mem_append.mp z with z | z
      · exact n (.inr (.inr z))
      · rw [List.mem_singleton.mp z, na] at e; cases e
  refine ⟨⟨fun b u e _ => keep_new na b u e, fun b u e => ⟨u, keep_new na b u e⟩, ⟨[a], rfl, fun b hb => by rw [List.mem_singleton.mp hb]; exact na⟩, rfl, rfl⟩, ⟨?_, ?_, fun n b y h1 h2 => ?_, fun b z => ?_, fun b hb => ?_, c.dj2⟩, ?_⟩
  · rw [List.nodup_append]
    exact ⟨c.nd, by simp, fun b hb b' hb' z => nh (.inr (.inr (by rw [← List.mem_singleton.mp hb', ← z]; exact hb)))⟩
  · rw [List.length_append, List.length_append, c.len]; rfl
  · have h1' : (F.th ++ [a])[n]? = some b := h1
    by_cases hn : n < F.th.length
    · rw [List.getElem?_append_left hn] at h1'
      rw [List.getElem?_append_left (by rw [← c.len]; exact hn)] at h2
      exact (c.cel n b y h1' h2).up up (upd_ne fun z => nh (.inr (.inr (by rw [← z]; exact List.mem_of_getElem? h1'))))
    · rw [List.getElem?_append_right (by omega)] at h1'
      rw [List.getElem?_append_right (by rw [← c.len]; omega)] at h2
      have e1 : b = a := List.mem_singleton.mp (List.mem_of_getElem? h1')
      have e2 : y = ce := List.mem_singleton.mp (List.mem_of_getElem? h2)
      subst e1 e2
      exact hc
  · by_cases ha : b = a
    · exact ⟨_, by rw [ha]; exact upd_same⟩
    · have hF : F.has b := by
        rcases z with z | z | z
        · exact .inl z
        · exact .inr (.inl z)
        · rcases List.mem_append.mp z with z | z
          · exact .inr (.inr z)
          · exact absurd (List.mem_singleton.mp z) ha
      obtain ⟨u, e⟩ := c.tr b hF
      exact ⟨u, by rw [upd_ne ha]; exact e⟩
  · rcases List.mem_append.mp hb with h | h
    · exact c.dj b h
    · rw [List.mem_singleton.mp h]
      exact ⟨fun z => nh (.inl z), fun z => nh (.inr (.inl z))⟩
  · rw [List.getElem?_append_right (by rw [c.len]; exact Nat.le_refl _), c.len, Nat.sub_self]; rfl
/-- {} : a new cell -/
def dNewM : M D := fun _ g => .ok (.g g.length) (g ++ [.dct []])
theorem ev_dnew : PE X (.Dict [] [] pos) (tM W E dNewM) := weakE pe_dnewK fun σ H Q ⟨F, e, g, S, p⟩ a na => by
  obtain ⟨x, c, h⟩ := cell_new (o := .dK []) (ce := .dct []) S.cells na upd_same
  exact p _ _ x c _ ⟨a, h, rfl⟩
/-- {k: v} of constants: data -/
def dOneM (k v : Int) : M D := fun _ g => .ok (.dct [(k, v)]) g
theorem ev_done {i j : Int} {k1 k2 : Nat} {p1 p2 : Pos} : PE X (.Dict [some (.Constant (.int i) k1 p1)] [.Constant (.int j) k2 p2] pos) (tM W E (dOneM i j)) := by
  refine weakE (pe_disp (pps_cons pe_int pe_int pps_nil) rfl rfl (by simp) (Nat.le_of_ble_eq_true rfl)) fun σ H Q ⟨F, e, g, S, p⟩ a na => ?_
  refine ⟨upd_same, [dkv (i, j)], rfl, Nat.le_of_ble_eq_true rfl, ?_⟩
  have e1 : upd (upd H a (.dK [])) a (.dK (mergeK [] [dkv (i, j)])) = upd H a (.dK ([(i, j)].map dkv)) := by
    rw [upd_upd]; rfl
  rw [e1]
  exact p F _ (Xe.new na) (S.cells.new na) _ ⟨a, rfl, .inl upd_same, S.cells.none na⟩
end
/-! ### data behind the call that made them -/
mutual
theorem Rep.low {W : Wd} {F F' F2 : Fb} {H H' : Hp} (hth : ∃ more, F'.th = F.th ++ more) (h2 : F2.th = F.th) (hh : ∀ a, F2.has a → F'.has a) : ∀ {d : D} {u0 u : V}, Rep W F H d u0 → Rep W F' H' d u → Rep W F2 H' d u
  | .non, _, _, _, h => h
  | .bl _, _, _, _, h => h
  | .int _, _, _, _, h => h
  | .str _, _, _, _, h => h
  | .tup ds, _, _, h0, h => by
    obtain ⟨_, vs0, _, _, r0⟩ := h0
    obtain ⟨a, vs, e, t, r⟩ := h
    refine ⟨a, vs, e, ?_, RepL.low hth h2 hh r0 r⟩
    rcases t with ⟨t, n⟩ | t
    · exact .inl ⟨t, fun z => n (hh a z)⟩
    · exact .inr t
  | .lst ds, _, _, h0, h => by
    obtain ⟨_, vs0, _, _, _, r0⟩ := h0
    obtain ⟨a, vs, e, t, n, r⟩ := h
    exact ⟨a, vs, e, t, fun z => n (hh a z), RepL.low hth h2 hh r0 r⟩
  | .ob c d, _, _, h0, h => by
    obtain ⟨_, _, _, _, _, _, r0⟩ := h0
    obtain ⟨a, dx, x, e, t, n, r⟩ := h
    exact ⟨a, dx, x, e, t, fun z => n (hh a z), Rep.low hth h2 hh r0 r⟩
  | .g n, _, _, h0, h => by
    obtain ⟨a0, e0, _⟩ := h0
    obtain ⟨a, e, r⟩ := h
    obtain ⟨more, hm⟩ := hth
    refine ⟨a, ?_, r⟩
    rw [hm, List.getElem?_append_left (List.getElem?_eq_some_iff.mp e0).1] at e
    rw [h2]; exact e
  | .sc ns, _, _, _, h => by
    obtain ⟨a, e, t⟩ := h
    refine ⟨a, e, ?_⟩
    rcases t with ⟨t, n⟩ | t
    · exact .inl ⟨t, fun z => n (hh a z)⟩
    · exact .inr t
  | .cl _, _, _, _, h => h
  | .dct _, _, _, _, h => by
    obtain ⟨a, e, t, n⟩ := h
    exact ⟨a, e, t, fun z => n (hh a z)⟩
  | .exc c d, _, _, h0, h => by
    obtain ⟨_, _, _, _, _, _, _, _, r0⟩ := h0
    obtain ⟨a, dx, x, e, t, n, t2, n2, r⟩ := h
    exact ⟨a, dx, x, e, t, fun z => n (hh a z), t2, fun z => n2 (hh dx z), Rep.low hth h2 hh r0 r⟩
  | .da ds, _, _, h0, h => by
    obtain ⟨_, vs0, _, _, _, r0⟩ := h0
    obtain ⟨a, vs, e, t, n, r⟩ := h
    exact ⟨a, vs, e, t, fun z => n (hh a z), RepL.low hth h2 hh r0 r⟩
theorem RepL.low {W : Wd} {F F' F2 : Fb} {H H' : Hp} (hth : ∃ more, F'.th = F.th ++ more) (h2 : F2.th = F.th) (hh : ∀ a, F2.has a → F'.has a) : ∀ {ds : List D} {us vs : List V}, RepL W F H ds us → RepL W F' H' ds vs → RepL W F2 H' ds vs
  | [], _, _, _, h => h
  | d :: ds, _, _, h0, h => by
    obtain ⟨u, us, _, a0, b0⟩ := h0
    obtain ⟨v, r, e, a, b⟩ := h
    exact ⟨v, r, e, Rep.low hth h2 hh a0 a, RepL.low hth h2 hh b0 b⟩
end
mutual
def eqD : D → D → Bool
  | .non, .non => true
  | .bl a, .bl b => decide (a = b)
  | .int a, .int b => decide (a = b)
  | .str a, .str b => decide (a = b)
  | .tup xs, .tup ys => eqDs xs ys
  | .lst xs, .lst ys => eqDs xs ys
  | .ob c x, .ob k y => decide (c = k) && eqD x y
  | .g n, .g m => decide (n = m)
  | .sc a, .sc b => decide (a = b)
  | .cl a, .cl b => decide (a = b)
  | .dct a, .dct b => decide (a = b)
  | .exc c x, .exc k y => decide (c = k) && eqD x y
  | .da xs, .da ys => eqDs xs ys
  | _, _ => false
def eqDs : List D → List D → Bool
  | [], [] => true
  | x :: xs, y :: ys => eqD x y && eqDs xs ys
  | _, _ => false
end
mutual
theorem eqD_ok : ∀ {a b : D}, eqD a b = true → a = b
  | .non, b, h => by cases b <;> simp [eqD] at h; rfl
  | .bl _, b, h => by cases b <;> simp [eqD] at h; rw [h]
  | .int _, b, h => by cases b <;> simp [eqD] at h; rw [h]
  | .str _, b, h => by cases b <;> simp [eqD] at h; rw [h]
  | .tup xs, b, h => by cases b <;> simp [eqD] at h; rw [eqDs_ok h]
  | .lst xs, b, h => by cases b <;> simp [eqD] at h; rw [eqDs_ok h]
  | .ob _ x, b, h => by cases b <;> simp [eqD] at h; rw [h.1, eqD_ok h.2]
  | .g _, b, h => by cases b <;> simp [eqD] at h; rw [h]
  | .sc _, b, h => by cases b <;> simp [eqD] at h; rw [h]
  | .cl _, b, h => by cases b <;> simp [eqD] at h; rw [h]
  | .dct _, b, h => by cases b <;> simp [eqD] at h; rw [h]
  | .exc _ x, b, h => by cases b <;> simp [eqD] at h; rw [h.1, eqD_ok h.2]
  | .da xs, b, h => by cases b <;> simp [eqD] at h; rw [eqDs_ok h]
theorem eqDs_ok : ∀ {xs ys : List D}, eqDs xs ys = true → xs = ys
  | [], ys, h => by cases ys <;> simp [eqDs] at h; rfl
  | x :: xs, ys, h => by cases ys <;> simp [eqDs] at h; rw [eqD_ok h.1, eqDs_ok h.2]
end
mutual
theorem eqD_self : ∀ a : D, eqD a a = true
  | .non => rfl
  | .bl _ => decide_eq_true rfl
  | .int _ => decide_eq_true rfl
  | .str _ => decide_eq_true rfl
  | .tup xs => eqDs_self xs
  | .lst xs => eqDs_self xs
  | .ob _ x => by simp [eqD, eqD_self x]
  | .g _ => decide_eq_true rfl
  | .sc _ => decide_eq_true rfl
  | .cl _ => decide_eq_true rfl
  | .dct _ => decide_eq_true rfl
  | .exc _ x => by simp [eqD, eqD_self x]
  | .da xs => eqDs_self xs
theorem eqDs_self : ∀ xs : List D, eqDs xs xs = true
  | [] => rfl
  | x :: xs => by simp [eqDs, eqD_self x, eqDs_self xs]
end
def eqC : Cell → Cell → Bool
  | .lst xs, .lst ys => eqDs xs ys
  | .ob c x, .ob k y => decide (c = k) && eqD x y
  | .dct a, .dct b => decide (a = b)
  | .tbl a, .tbl b => decide (a = b)
  | _, _ => false
theorem eqC_ok {a b : Cell} (h : eqC a b = true) : a = b := by
  cases a <;> cases b <;> simp [eqC] at h
  · rw [eqDs_ok h]
  · rw [h.1, eqD_ok h.2]
  · rw [h]
  · rw [h]
theorem eqC_self (a : Cell) : eqC a a = true := by
  cases a <;> simp [eqC, eqDs_self, eqD_self]
def eqG : List Cell → List Cell → Bool
  | [], [] => true
  | x :: xs, y :: ys => eqC x y && eqG xs ys
  | _, _ => false
theorem eqG_ok : ∀ {xs ys : List Cell}, eqG xs ys = true → xs = ys
  | [], ys, h => by cases ys <;> simp [eqG] at h; rfl
  | x :: xs, ys, h => by cases ys <;> simp [eqG] at h; rw [eqC_ok h.1, eqG_ok h.2]
theorem eqG_self : ∀ xs : List Cell, eqG xs xs = true
  | [] => rfl
  | x :: xs => by simp [eqG, eqC_self x, eqG_self xs]
/-- the one new cell of a call, a dict, becomes data -/
def dropC (g1 : List Cell) : R D → R D
  | .ok (.g m) g2 => match g2[m]? with
    | some (.dct kvs) => if m = g1.length ∧ eqG g2 (g1 ++ [.dct kvs]) = true then .ok (.dct kvs) g1 else .bad
    | _ => .bad
  | .ex c d g => .ex c d g
  | _ => .bad
theorem dropC_of {g1 g2 g3 : List Cell} {d d' : D} (h : dropC g1 (.ok d g2) = .ok d' g3) : ∃ kvs, d = .g g1.length ∧ g2 = g1 ++ [.dct kvs] ∧ d' = .dct kvs ∧ g3 = g1 := by
  cases d <;> try (cases h; done)
  rename_i m
  unfold dropC at h
  simp only at h
  split at h
  · rename_i kvs q
    split at h
    · rename_i hc
      cases h
      exact ⟨kvs, by rw [hc.1], eqG_ok hc.2, rfl, rfl⟩
    · cases h
  · cases h
theorem dropC_ok (g1 : List Cell) (kvs : List (Int × Int)) : dropC g1 (.ok (.g g1.length) (g1 ++ [.dct kvs])) = .ok (.dct kvs) g1 := by
  unfold dropC
  simp only [List.getElem?_concat_length]
  rw [if_pos ⟨trivial, eqG_self _⟩]
def callDM (n : Nat) (f : List D → List Cell → R D) (m : M (List D)) : M D := fun e g => (m e g).bind fun ds g1 => if ds.length = n then dropC g1 (f ds g1) else .bad
section
variable {W : Wd} {E : XK} {X : Cx} {F : Fb} {H : Hp} {g : List Cell}
theorem post_drop {r : R D} {Q : VK} (c1 : Cells W F H g) (p : Post W E F H (dropC g r) fun d _ F' H' => ∀ v, Rep W F' H' d v → Q v H') : Post W E F H r fun d _ F' H' => ∀ v, Rep W F' H' d v → Q v H' := by
  cases r with
  | bad => exact p.elim
  | ex c d g2 => exact p
  | ok d g2 =>
    cases q : dropC g (.ok d g2) with
    | bad => rw [q] at p; exact p.elim
    | ex c d' g3 =>
      exfalso
      cases d <;> try (cases q; done)
      unfold dropC at q
      simp only at q
      split at q
      · split at q <;> cases q
      · cases q
    | ok d' g3 =>
      rw [q] at p
      obtain ⟨kvs, e1, e2, e3, e4⟩ := dropC_of q
      rw [e3, e4] at p
      intro F' H' x c v rv
      subst e1 e2
      obtain ⟨a, ha, rfl⟩ := rv
      have hc : H' a = some (.dK (kvs.map dkv)) := c.cel g.length a (.dct kvs) ha (List.getElem?_concat_length ..)
      obtain ⟨more, hm, hn⟩ := x.th
      have hlen := c.len
      rw [hm, List.length_append, List.length_append, c1.len] at hlen
      have hl1 : more.length = 1 := by
        have : ([Cell.dct kvs] : List Cell).length = 1 := rfl
        omega
      obtain ⟨b, rfl⟩ := List.length_eq_one_iff.mp hl1
      have hab : a = b := by
        rw [hm, List.getElem?_append_right (by rw [c1.len]; exact Nat.le_refl _), c1.len, Nat.sub_self] at ha
        exact (Option.some.inj ha).symm
      subst hab
      have hnd := c.nd
      rw [hm] at hnd
      have hdj := c.dj a (by rw [hm]; exact List.mem_append_right _ (List.mem_singleton.mpr rfl))
      have hna : a ∉ F.th := fun z => (List.nodup_append.mp hnd).2.2 a z a (List.mem_singleton.mpr rfl) rfl
      have hh : ∀ b, (⟨F'.nu, F'.om, F.th⟩ : Fb).has b → F'.has b := fun b z => by
        rcases z with z | z | z
        · exact .inl z
        · exact .inr (.inl z)
        · exact .inr (.inr (by rw [hm]; exact List.mem_append_left _ z))
      refine p ⟨F'.nu, F'.om, F.th⟩ H' ⟨x.keep, x.st, ⟨[], by simp, by simp⟩, x.nu, x.om⟩ ⟨c1.nd, c1.len, fun n b y h1 h2 => ?_, fun b z => c.tr b (hh b z), fun b hb => c.dj b (by rw [hm]; exact List.mem_append_left _ hb), c.dj2⟩ (.ref a) ⟨a, rfl, .inl hc, fun z => ?_⟩
      · have k1 : F'.th[n]? = some b := by rw [hm, List.getElem?_append_left (List.getElem?_eq_some_iff.mp h1).1]; exact h1
        have k2 : (g ++ [Cell.dct kvs])[n]? = some y := by rw [List.getElem?_append_left (List.getElem?_eq_some_iff.mp h2).1]; exact h2
        have q0 := c1.cel n b y h1 h2
        have q1 := c.cel n b y k1 k2
        cases y with
        | lst ds =>
          obtain ⟨us, _, r0⟩ := q0
          obtain ⟨vs, e, r⟩ := q1
          exact ⟨vs, e, RepL.low (F2 := ⟨F'.nu, F'.om, F.th⟩) ⟨[a], hm⟩ rfl hh r0 r⟩
        | ob k d =>
          obtain ⟨_, _, _, r0⟩ := q0
          obtain ⟨dx, u, e, r⟩ := q1
          exact ⟨dx, u, e, Rep.low (F2 := ⟨F'.nu, F'.om, F.th⟩) ⟨[a], hm⟩ rfl hh r0 r⟩
        | dct ks => exact q1
        | tbl q => exact ⟨q1.1, TabF.down hh q1.2⟩
      · rcases z with z | z | z
        · exact hdj.1 z
        · exact hdj.2 z
        · exact hna z
variable {CX : CXT} {k n : Nat} {f : Addr} {fd : FuncData} {ps : List Str} {fs : List D → List Cell → R D} {x : Str} {p pos : Pos} {e : Expr} {es : List Expr} {mr : M (List D)}
theorem ev_callD (G : FnG X.prog X.w X.K X.mg X.base CX k f fd ps (spEv W n fs)) (hG : X.A.guards = some []) (hr : Room k X.A) (hg : Gl X x) (hm : X.mg x = some (.ref f)) (hk : PySem.W.keepIn X.K (.ref f) = true) (bd : Binds X.K fd ps []) (px : Passes CX X E)
    (ha : PA X (e :: es) (tL W E mr)) (hdb : (x == ("__debug__" : Str)) = false := by decide) (he : starEach (e :: es) X.env = (false, eval e X.env) :: starEach es X.env := by rfl) (hpl : (backTo pos (starEach es X.env)).any (·.1) = false := by rfl) :
    PE X (.Call (.Name x p) (e :: es) [] pos) (tM W E (callDM n fs mr)) := by
  refine ⟨fun pins s σ H Q I ⟨F, en, g, S, q⟩ => wpAny_Call_Name_kw (ld_glob I hg hm ?_ hdb)⟩
  refine PySem.W.callWith_K (h₀ := X.base) I.ok.mod.kin hk (thn (ha.run pos pins s σ H _ I ⟨F, en, g, S, (Post.bind q).mono fun ds g1 F1 H1 x1 c1 k1 vs r => (⟨F1, ds, g1, c1, r, by
    by_cases hl : ds.length = n
    · rw [if_pos hl] at k1 ⊢
      exact post_drop c1 k1
    · rw [if_neg hl] at k1
      exact k1.elim⟩ : ∃ F1 ds g1, Cells W F1 H1 g1 ∧ RepL W F1 H1 ds vs ∧ Post W E F1 H1 (if ds.length = n then fs ds g1 else .bad) fun d _ F' H' => ∀ v, Rep W F' H' d v → Q v H')⟩) fun us s1 ⟨vs, H1, I1, r, F1, ds, g1, c1, rr, k1⟩ => ⟨I1.kIn, ?_⟩) he hpl
  exact run_fnG (dvs := []) (ds := []) G hG hr bd .nil px I1 r (by rw [List.append_nil]; exact sp_in c1 rr k1)
end
/-! ### a dict that is walked -/
theorem rd_ne {H : Hp} {a b : Addr} {k : List (Key × V)} {o : HO} (h : Rd H a (.dK k)) (e : Rd H b o) (n : ∀ k, o ≠ .dK k) (n2 : ∀ od u, o ≠ .frz od u) : b ≠ a := fun z => by
  subst z
  rcases h with h | ⟨od, h⟩ <;> rcases e with e | ⟨oe, e⟩
  · rw [h] at e; cases e; exact n _ rfl
  · rw [h] at e; cases e
  · rw [h] at e
    cases e
    exact n2 _ _ rfl
  · rw [h] at e; cases e; exact n _ rfl
theorem rd_eq {H : Hp} {a : Addr} {k k' : List (Key × V)} (h : Rd H a (.dK k)) (e : Rd H a (.dK k')) : k' = k := by
  rcases h with h | ⟨od, h⟩ <;> rcases e with e | ⟨oe, e⟩ <;> (rw [h] at e; first | (cases e; rfl) | cases e)
theorem rd_mv {H H' : Hp} {b : Addr} {o : HO} (e : H' b = H b) (h : Rd H b o) : Rd H' b o := by
  unfold Rd
  rw [e]
  exact h
section
variable {W : Wd} {F : Fb} {H H' : Hp} {a : Addr} {k : List (Key × V)}
mutual
theorem Rep.relab {W : Wd} {F : Fb} {H H' : Hp} {a : Addr} {k : List (Key × V)} (hH : Rd H a (.dK k)) (h2 : Rd H' a (.dK k)) (hne : ∀ b, b ≠ a → H' b = H b) : ∀ {d : D} {v : V}, Rep W F H d v → Rep W F H' d v
  | .non, _, h => h
  | .bl _, _, h => h
  | .int _, _, h => h
  | .str _, _, h => h
  | .tup ds, _, h => by
    obtain ⟨b, vs, e, t, r⟩ := h
    refine ⟨b, vs, e, ?_, RepL.relab hH h2 hne r⟩
    rcases t with ⟨t, n⟩ | t
    · exact .inl ⟨rd_mv (hne b (rd_ne hH t (fun _ z => nomatch z) fun _ _ z => nomatch z)) t, n⟩
    · exact .inr t
  | .lst ds, _, h => by
    obtain ⟨b, vs, e, t, n, r⟩ := h
    exact ⟨b, vs, e, (hne b (rd_ne hH (.inl t) (fun _ z => nomatch z) fun _ _ z => nomatch z)).trans t, n, RepL.relab hH h2 hne r⟩
  | .ob c d, _, h => by
    obtain ⟨b, dx, u, e, t, n, r⟩ := h
    exact ⟨b, dx, u, e, (hne b (rd_ne hH (.inl t) (fun _ z => nomatch z) fun _ _ z => nomatch z)).trans t, n, Rep.relab hH h2 hne r⟩
  | .g _, _, h => h
  | .sc ns, _, h => by
    obtain ⟨b, e, t⟩ := h
    refine ⟨b, e, ?_⟩
    rcases t with ⟨⟨o, t⟩, n⟩ | t
    · exact .inl ⟨⟨o, (hne b (rd_ne hH (.inr ⟨o, t⟩) (fun _ z => nomatch z) fun _ _ z => nomatch z)).trans t⟩, n⟩
    · exact .inr t
  | .cl _, _, h => h
  | .dct ks, _, h => by
    obtain ⟨b, e, t, n⟩ := h
    refine ⟨b, e, ?_, n⟩
    by_cases z : b = a
    · subst z
      rw [rd_eq hH t]
      exact h2
    · exact rd_mv (hne b z) t
  | .exc c d, _, h => by
    obtain ⟨b, dx, u, e, t, n, t2, n2, r⟩ := h
    exact ⟨b, dx, u, e, (hne b (rd_ne hH (.inl t) (fun _ z => nomatch z) fun _ _ z => nomatch z)).trans t, n, (hne dx (rd_ne hH (.inl t2) (fun _ z => nomatch z) fun _ _ z => nomatch z)).trans t2, n2, Rep.relab hH h2 hne r⟩
  | .da ds, _, h => by
    obtain ⟨b, vs, e, t, n, r⟩ := h
    refine ⟨b, vs, e, ?_, n, RepL.relab hH h2 hne r⟩
    by_cases z : b = a
    · subst z
      rw [rd_eq hH t]
      exact h2
    · exact rd_mv (hne b z) t
theorem RepL.relab {W : Wd} {F : Fb} {H H' : Hp} {a : Addr} {k : List (Key × V)} (hH : Rd H a (.dK k)) (h2 : Rd H' a (.dK k)) (hne : ∀ b, b ≠ a → H' b = H b) : ∀ {ds : List D} {vs : List V}, RepL W F H ds vs → RepL W F H' ds vs
  | [], _, h => h
  | d :: ds, _, h => by
    obtain ⟨v, r, e, x, y⟩ := h
    exact ⟨v, r, e, Rep.relab hH h2 hne x, RepL.relab hH h2 hne y⟩
end
theorem Cells.relab {g : List Cell} (c : Cells W F H g) (hn : ¬ F.has a) (hH : Rd H a (.dK k)) (h2 : Rd H' a (.dK k)) (hne : ∀ b, b ≠ a → H' b = H b) : Cells W F H' g := by
  refine ⟨c.nd, c.len, fun n b y h1 h3 => ?_, fun b z => ?_, c.dj, c.dj2⟩
  · have hb : b ≠ a := fun z => hn (.inr (.inr (by rw [← z]; exact List.mem_of_getElem? h1)))
    have q := c.cel n b y h1 h3
    cases y with
    | lst ds =>
      obtain ⟨vs, e, r⟩ := q
      exact ⟨vs, (hne b hb).trans e, r.relab hH h2 hne⟩
    | ob cc d =>
      obtain ⟨dx, u, e, r⟩ := q
      exact ⟨dx, u, (hne b hb).trans e, r.relab hH h2 hne⟩
    | dct ks => exact (hne b hb).trans q
    | tbl q' =>
      obtain ⟨e0, ps, e, t, r⟩ := q
      refine ⟨e0, ps, (hne b hb).trans e, t, fun pos cv hc => ?_⟩
      obtain ⟨d, e1, e2, e3⟩ := r pos cv hc
      exact ⟨d, e1, (hne d fun z => by
        subst z
        rcases hH with w | ⟨_, w⟩ <;> · rw [w] at e2; cases e2).trans e2, e3⟩
  · obtain ⟨o, e⟩ := c.tr b z
    exact ⟨o, by rw [hne b fun w => hn (by rw [← w]; exact z)]; exact e⟩
theorem St.relab {e : Env} {g : List Cell} {σ : L2.St} (S : St W F e g σ H) (hn : ¬ F.has a) (hH : Rd H a (.dK k)) (h2 : Rd H' a (.dK k)) (hne : ∀ b, b ≠ a → H' b = H b) : St W F e g σ H' := by
  refine ⟨S.cells.relab hn hH h2 hne, S.len, fun i d h => ?_, fun i ds h => ?_, S.apart⟩
  · obtain ⟨v, h1, h3⟩ := S.slots i d h
    exact ⟨v, h1, h3.relab hH h2 hne⟩
  · obtain ⟨b, vs, h1, h3, h4, h5⟩ := S.owns i ds h
    exact ⟨b, vs, h1, h3, (hne b fun w => hn (by rw [← w]; exact .inr (.inl h3))).trans h4, h5.relab hH h2 hne⟩
/-- slot i holds a dict that is locked -/
def Lk (i : Nat) (σ : L2.St) (H : Hp) : Prop := ∃ a o k, σ[i]? = some (some (.ref a)) ∧ H a = some (.frz o (.dK k))
def lckM {α : Type} (i : Nat) (m : M α) : M α := fun e g => match e[i]? with
  | some (.v (.dct _)) => (m e g).noex
  | _ => .bad
theorem lck_of {α : Type} {i : Nat} {m : M α} {e : Env} {g : List Cell} {E : XK} {K : α → List Cell → Fb → Hp → Prop} (p : Post W E F H (lckM i m e g) K) : ∃ kvs, e[i]? = some (.v (.dct kvs)) ∧ ∃ d g1, m e g = .ok d g1 ∧ ∀ F' H', Xe F F' H H' → Cells W F' H' g1 → K d g1 F' H' := by
  unfold lckM at p
  cases q : e[i]? with
  | none => rw [q] at p; exact p.elim
  | some sl =>
    rw [q] at p
    cases sl with
    | no => exact p.elim
    | own _ => exact p.elim
    | v d =>
      cases d <;> try exact p.elim
      rename_i kvs
      simp only at p
      cases r : m e g with
      | ok d g1 => rw [r] at p; exact ⟨kvs, rfl, d, g1, rfl, p⟩
      | ex c d g1 => rw [r] at p; exact p.elim
      | bad => rw [r] at p; exact p.elim
theorem upd_flip {a b : Addr} {o u : HO} (h : a ≠ b) : upd (upd H a o) b u = upd (upd H b u) a o := by
  funext c
  unfold upd
  by_cases h1 : c = b
  · by_cases h2 : c = a
    · exact absurd (h2.symm.trans h1) h
    · rw [if_pos h1, if_neg h2, if_pos h1]
  · rw [if_neg h1]
    by_cases h2 : c = a
    · rw [if_pos h2, if_pos h2]
    · rw [if_neg h2, if_neg h2, if_neg h1]
theorem ev_lockF {X : Cx} {c : Expr} {i : Nat} {E : XK} {m : M (List D)} (h : PE X c (fun σ H Q => Lk i σ H ∧ tF W E m σ H Q)) : PE X c (tF W E (lckM i m)) := by
  refine ⟨fun pins s σ H Q I ⟨F, e, g, S, p⟩ => ?_⟩
  obtain ⟨kvs, q, ds, g1, r, p⟩ := lck_of p
  obtain ⟨v, h1, a, rfl, h2, hn⟩ := S.slots i _ q
  rcases h2 with h2 | ⟨o, h2⟩
  · refine (pe_lock h).run pins s σ H Q I ⟨a, _, h2, trivial, fun od => ⟨⟨a, od, _, h1, upd_same⟩, F, e, g, S.relab hn (.inl h2) (.inr ⟨od, upd_same⟩) (fun b hb => upd_ne hb), ?_⟩⟩
    rw [r]
    intro F' H' x c1 p' vs np rr
    have ha : H' a = some (.frz od (.dK (kvs.map dkv))) := x.keep a _ upd_same fun z => hn (.inr (.inr z))
    have hpa : p' ≠ a := fun z => by rw [z, ha] at np; cases np
    have hn' : ¬ F'.has a := fun z => by
      rcases z with z | z | z
      · rw [x.nu] at z; exact hn (.inl z)
      · rw [x.om] at z; exact hn (.inr (.inl z))
      · obtain ⟨more, hm, hm2⟩ := x.th
        rw [hm] at z
        rcases List.mem_append.mp z with z | z
        · exact hn (.inr (.inr z))
        · have := hm2 a z
          rw [upd_same] at this; cases this
    have back : ∀ b, b ≠ a → upd H' a (.dK (kvs.map dkv)) b = H' b := fun b hb => upd_ne hb
    refine ⟨by rw [upd_ne (Ne.symm hpa)]; exact ha, ?_⟩
    rw [upd_flip hpa]
    refine p F' _ ⟨fun b u e1 nb => ?_, fun b u e1 => ?_, ?_, x.nu, x.om⟩ (c1.relab hn' (.inr ⟨od, ha⟩) (.inl upd_same) back) p' vs (by rw [upd_ne hpa]; exact np) (rr.relab (.inr ⟨od, ha⟩) (.inl upd_same) back)
    · by_cases hb : b = a
      · rw [hb] at e1 ⊢
        rw [upd_same, ← e1, h2]
      · rw [upd_ne hb]
        exact x.keep b u (by rw [upd_ne hb]; exact e1) nb
    · by_cases hb : b = a
      · exact ⟨_, by rw [hb]; exact upd_same⟩
      · obtain ⟨o', e2⟩ := x.st b u (by rw [upd_ne hb]; exact e1)
        exact ⟨o', by rw [upd_ne hb]; exact e2⟩
    · obtain ⟨more, hm, hm2⟩ := x.th
      refine ⟨more, hm, fun b hb => ?_⟩
      have := hm2 b hb
      by_cases hba : b = a
      · rw [hba, upd_same] at this; cases this
      · rw [upd_ne hba] at this; exact this
  · exact h.run pins s σ H Q I ⟨⟨a, o, _, h1, h2⟩, F, e, g, S, by rw [r]; exact p⟩
def lckS (i : Nat) (m : MS) : MS := fun e g => match e[i]? with
  | some (.v (.dct _)) => (match m e g with
    | .nx e1 g1 => .nx e1 g1
    | _ => .bad)
  | _ => .bad
theorem es_lock {X : Cx} {st : Stmt} {i : Nat} {E : XK} {m : MS} (h : PS X st (fun D σ H => Lk i σ H ∧ tMS W E m D σ H)) : PS X st (tMS W E (lckS i m)) := by
  refine ⟨fun pins s σ H D I ⟨F, e, g, S, p⟩ => ?_⟩
  unfold lckS at p
  cases q : e[i]? with
  | none => rw [q] at p; exact p.elim
  | some sl =>
    rw [q] at p
    cases sl with
    | no => exact p.elim
    | own _ => exact p.elim
    | v d =>
      cases d <;> try exact p.elim
      rename_i kvs
      simp only at p
      cases r : m e g with
      | nx e1 g1 =>
        rw [r] at p
        simp only at p
        obtain ⟨v, h1, a, rfl, h2, hn⟩ := S.slots i _ q
        rcases h2 with h2 | ⟨o, h2⟩
        · refine (ps_lock h).run pins s σ H D I ⟨a, _, h2, trivial, fun od => ⟨⟨a, od, _, h1, upd_same⟩, F, e, g, S.relab hn (.inl h2) (.inr ⟨od, upd_same⟩) (fun b hb => upd_ne hb), ?_⟩⟩
          rw [r]
          intro F' σ' H' x S'
          have ha : H' a = some (.frz od (.dK (kvs.map dkv))) := x.keep a _ upd_same (fun z => hn (.inr (.inr z))) fun z => hn (.inr (.inl z))
          have hn' : ¬ F'.has a := (x.up.keep a _ upd_same hn).2
          have back : ∀ b, b ≠ a → upd H' a (.dK (kvs.map dkv)) b = H' b := fun b hb => upd_ne hb
          refine ⟨ha, p F' σ' _ ⟨fun b u e1 nb no => ?_, fun b u e1 => ?_, ?_, x.nu, fun b hb => ?_⟩ (S'.relab hn' (.inr ⟨od, ha⟩) (.inl upd_same) back)⟩
          · by_cases hb : b = a
            · rw [hb] at e1 ⊢
              rw [upd_same, ← e1, h2]
            · rw [upd_ne hb]
              exact x.keep b u (by rw [upd_ne hb]; exact e1) nb no
          · by_cases hb : b = a
            · exact ⟨_, by rw [hb]; exact upd_same⟩
            · obtain ⟨o', e2⟩ := x.st b u (by rw [upd_ne hb]; exact e1)
              exact ⟨o', by rw [upd_ne hb]; exact e2⟩
          · obtain ⟨more, hm, hm2⟩ := x.th
            refine ⟨more, hm, fun b hb => ?_⟩
            have := hm2 b hb
            by_cases hba : b = a
            · rw [hba, upd_same] at this; cases this
            · rw [upd_ne hba] at this; exact this
          · rcases x.om b hb with z | z
            · exact .inl z
            · by_cases hba : b = a
              · rw [hba, upd_same] at z; cases z
              · rw [upd_ne hba] at z; exact .inr z
        · exact h.run pins s σ H D I ⟨⟨a, o, _, h1, h2⟩, F, e, g, S, by rw [r]; exact p⟩
      | bk _ _ => rw [r] at p; exact p.elim
      | ct _ _ => rw [r] at p; exact p.elim
      | rt _ _ => rw [r] at p; exact p.elim
      | ex _ _ _ => rw [r] at p; exact p.elim
      | bad => rw [r] at p; exact p.elim
/-- the pairs -/
def itmL (kvs : List (Int × Int)) : List D := kvs.map fun p => .tup [.int p.1, .int p.2]
def itemsIt (i : Nat) : M (List D) := fun e g => match e[i]? with
  | some (.v (.dct kvs)) => .ok (itmL kvs) g
  | _ => .bad
theorem ei_items {X : Cx} {E : XK} {i kk : Nat} {x : Str} {elts : List Expr} {p apos cpos tpos : Pos} (hN : X.N[i]? = some x := by rfl) (hv : Vis X.env.scope x := by first | exact Or.inl rfl | exact Or.inr (Or.inl rfl) | exact Or.inr (Or.inr rfl)) (hd : (x == ("__debug__" : Str)) = false := by decide)
    (hcd : (x == ("__classdict__" : Str)) = false := by decide) (hbase : attributeBase (.Name x p) "items" X.env (eval (.Name x p) X.env) = eval (.Name x p) X.env := by rfl) (hline : (apos.endLine == cpos.line) = true := by rfl) :
    PI X (.Tuple elts kk tpos) (.Call (.Attribute (.Name x p) "items" apos) [] [] cpos) (fun σ H R => Lk i σ H ∧ tIt W E (itemsIt i) σ H R) :=
  weakI (pi_items (pe_var hN hv hd hcd) hbase hline) fun σ H R ⟨⟨a, o, k, h1, h2⟩, F, e, g, S, p⟩ => by
    unfold itemsIt at p
    cases q : e[i]? with
    | none => rw [q] at p; exact p.elim
    | some sl =>
      rw [q] at p
      cases sl with
      | no => exact p.elim
      | own _ => exact p.elim
      | v d =>
        cases d <;> try exact p.elim
        rename_i kvs
        obtain ⟨v, h3, b, rfl, h4, hn⟩ := S.slots i _ q
        rw [h1] at h3
        cases h3
        obtain rfl := rd_eq h4 (.inr ⟨o, h2⟩)
        have hlen : (itmL kvs).length = (kvs.map dkv).length := by unfold itmL; rw [List.length_map, List.length_map]
        refine ⟨_, h1, a, o, _, rfl, h2, p F H .refl S.cells _ ⟨fun H2 => H2 a = some (.frz o (.dK (kvs.map dkv))), (Iti a o (kvs.map dkv)).yld, ⟨fun j H2 hj hq => ⟨hq, by rw [← hlen]; exact hj⟩, fun H2 hq => ⟨hq, by rw [hlen]; exact Nat.le_refl _⟩, fun j H2 x H3 _ _ y => y⟩, fun F2 H2 u => (u.keep a _ h2 hn).1, ?_⟩⟩
        rintro j H2 w H3 F2 g2 hj u c ⟨T, k, v0, e1, rfl, hT, rfl⟩
        rw [List.getElem?_map] at e1
        obtain ⟨pr, e2, e3⟩ := Option.map_eq_some_iff.mp e1
        cases e3
        refine ⟨.tup [.int pr.1, .int pr.2], by unfold itmL; rw [List.getElem?_map, e2]; rfl, pair_rep c hT (rep_int _) (rep_int _), keep_new hT⟩
end
section
variable {W : Wd} {E : XK} {X : Cx} {i : Nat} {f : D → Env → Option Env} {v1 : List Nat} {tg iter elt : Expr} {body : List Stmt} {s1 : MS} {na : M Bool} {ma : M D} {ifs : List Expr} {scope : Scope} {own : List (Str × Nat)} {pos : Pos} {mr : M (List D)}
theorem ev_lcItems (hc : X.calm = true) (hN : X.N.Nodup) (hi : PI X tg iter (fun σ H R => Lk i σ H ∧ tIt W E mr σ H R)) (ok : BlkOk X.N X.env.scope scope own)
    (hg : ∀ (s : Shared) (H : Hp) (C : Addr) (cl : List (Str × Addr)) (fp : List Addr), PG (X.blk s H scope (compEnvC scope cl C X.env) fp) tg (tG W f v1))
    (ht : ∀ (s : Shared) (H : Hp) (C : Addr) (cl : List (Str × Addr)) (fp : List Addr), PTs (X.blk s H scope (compEnvC scope cl C X.env) fp) ifs (tB W (fun _ _ _ => False) na))
    (he : ∀ (s : Shared) (H : Hp) (C : Addr) (cl : List (Str × Addr)) (fp : List Addr), PE (X.blk s H scope (compEnvC scope cl C X.env) fp) elt (tM W (fun _ _ _ => False) ma))
    (hv : ∀ i ∈ v1, i ∈ own.map (·.2) := by decide) (hs : ∀ x, foldedSetIterable iter X.env x = pure x := by intro _; rfl) :
    PE X (.ListComp elt [⟨tg, iter, ifs, 0⟩] scope pos) (tF W E (lckM i (lcM mr f na ma (own.map (·.2))))) := ev_lockF (weakE (pe_lc hc hN hi ok hg ht he hs) fun _ _ _ h => ⟨h.1, r_lc hv h.2⟩)
theorem es_forItems (hp : PassesOwn (model X.prog X.w) X.A X.env X.xe) (hc : X.calm = true) (hi : PI X tg iter (fun σ H R => Lk i σ H ∧ tIt W E mr σ H R)) (hg : PG X tg (tG W f v1)) (hb : PSs X body (tMS W E s1)) (hs : ∀ x, foldedSetIterable iter X.env x = pure x := by intro _; rfl) :
    PS X (.For tg iter body [] pos) (tMS W E (lckS i (forS mr f s1))) := es_lock (weakS (ps_for hp hc hi hg hb hs) fun D0 σ H ⟨hL, F, e, g, S, p⟩ => by
  refine ⟨hL, F, e, g, S, p.toS.mono fun ds g1 F1 H1 x1 c1 k J hJ => ?_⟩
  obtain ⟨G, Y, hw, hG, hY⟩ := hJ
  refine for_it hw (fun i σ' H' => ∃ F' e' g', Xs F1 F' H1 H' ∧ St W F' e' g' σ' H' ∧ SPost W E F' H' (forL f s1 (ds.drop i) e' g') D0) ⟨F1, e, g1, .refl, S.step x1 c1, k⟩ ?_ ?_ ?_
  · rintro i σ' H' _ ⟨F', _, _, x, _, _⟩
    exact hG F' H' x.up
  · rintro i v σ' H' H'' hi ⟨F', e', g', x, S', p'⟩ y
    obtain ⟨d, h1, h2, h3⟩ := hY i H' v H'' F' g' hi x.up S'.cells y
    rw [drop_at h1] at p'
    have S2 := S'.kept h3
    have x2 : Xs F' F' H' H'' := (Xe.all h3).xs
    have p2 := p'.on x2
    unfold forL at p2
    cases q : f d e' with
    | none => simp only [q] at p2; exact p2.elim
    | some e1 =>
      simp only [q] at p2
      refine ⟨F', e', g', d, e1, S2, h2, q, fun σ2 S3 _ => ⟨F', e1, g', S3, ?_⟩⟩
      exact SPost.turn p2 (fun F3 σ3 H3 e3 g3 x3 s3 q3 => ⟨⟨F3, e3, g3, (x.trans x2).trans x3, s3, q3⟩, ⟨F3, e3, g3, (x.trans x2).trans x3, s3, q3⟩⟩) (fun _ _ h => h) fun _ _ h => h
  · rintro σ' H' ⟨F', e', g', x, S', p'⟩
    rw [List.drop_length] at p'
    exact p' F' σ' H' .refl S')
end
/-! ### max of a list of pairs of ints -/
def prI (p : Int × Int) : D := .tup [.int p.1, .int p.2]
def pairOf : D → Option (Int × Int)
  | .tup [.int a, .int b] => some (a, b)
  | _ => none
def pairsOf : List D → Option (List (Int × Int))
  | [] => some []
  | d :: ds => match pairOf d, pairsOf ds with
    | some p, some ps => some (p :: ps)
    | _, _ => none
theorem pairOf_eq {d : D} {p : Int × Int} (h : pairOf d = some p) : d = prI p := by
  unfold pairOf at h
  split at h
  · cases h; rfl
  · cases h
theorem pairsOf_eq : ∀ {ds : List D} {ps : List (Int × Int)}, pairsOf ds = some ps → ds = ps.map prI
  | [], ps, h => by cases h; rfl
  | d :: ds, ps, h => by
    unfold pairsOf at h
    split at h
    · rename_i p qs h1 h2
      cases h
      rw [pairOf_eq h1, pairsOf_eq h2]; rfl
    · cases h
theorem pairsOf_map : ∀ ps : List (Int × Int), pairsOf (ps.map prI) = some ps
  | [] => rfl
  | p :: ps => by
    show (match pairOf (prI p), pairsOf (ps.map prI) with | some p, some ps => some (p :: ps) | _, _ => none) = _
    rw [pairsOf_map ps]; rfl
/-- the first of the greatest, by the first entry, then the second -/
def maxP (x : Int × Int) (ps : List (Int × Int)) : Int × Int := PySem.W.maxOf x ps
def maxTF : List D → List Cell → Option D := fun ds _ => match ds with
  | [.lst xs] => match pairsOf xs with
    | some (p :: ps) => some (prI (maxP p ps))
    | _ => none
  | _ => none
theorem okds_pr : ∀ ps : List (Int × Int), okds (ps.map prI) 3 = true
  | [] => rfl
  | p :: ps => by
    show (okd (prI p) 3 && okds (ps.map prI) 3) = true
    rw [okds_pr ps]; rfl
theorem toPds_pr : ∀ ps : List (Int × Int), toPds (ps.map prI) = ps.map PySem.W.Datum.toD
  | [] => rfl
  | p :: ps => by
    show toPd (prI p) :: toPds (ps.map prI) = _
    rw [toPds_pr ps]; rfl
def rMaxP (K : PySem.W.Frag) : List V → Hp → VK → Prop := fun vs H Q => ∃ (a : Addr) (us : List V) (x : Int × Int) (ps : List (Int × Int)), vs = [V.ref a] ∧ SqL K H a us ∧ DpAll K H us ((x :: ps).map PySem.W.Datum.toD) ∧ ∀ (v : V) (i : Nat), us[i]? = some v → (x :: ps)[i]? = some (maxP x ps) → Q v H
theorem toD_inj {p q : Int × Int} (h : (PySem.W.Datum.toD p : PyData) = PySem.W.Datum.toD q) : p = q := by
  have h : PyData.tuple [.int p.1, .int p.2] = PyData.tuple [.int q.1, .int q.2] := h
  cases p; cases q
  cases h; rfl
theorem toD_lay (p : Int × Int) : (PySem.W.Datum.toD p : PyData).canLay0 = true := by
  show (PyData.tuple [.int p.1, .int p.2]).canLay0 = true
  simp [PyData.canLay0, PyData.canLayAll0]
theorem cr_maxP {X : Cx} (hc : X.calm = true) (hu : X.A.units + 3 < cLine) : CallR X (.builtin "max") (rMaxP X.K) := by
  intro pins s σ H vs us Q I r h
  obtain ⟨a, ws, x, ps, rfl, hs, hd, q⟩ := h
  obtain ⟨its, rv, hl, _⟩ := I.list hs
  rw [Vals.ref1 r]
  obtain ⟨as, hr⟩ := Dp.readsAll I _ ws its hd rv
  have HA : PySem.W.HoldAll s.heap its.toArray.toList (x :: ps) := ⟨as, by simpa using hr⟩
  refine PySem.W.max_list_datum (I.ok.hd hc) hl.isList HA (by show X.A.units + 1 + 1 < cLine; omega) fun i v h' tk hv hol hk => ?_
  obtain ⟨y, hy, hol2⟩ := HA.at (i := i) (v := v) (by rw [Array.getElem?_toList]; exact hv)
  obtain ⟨as1, r1⟩ := hol
  obtain ⟨as2, r2⟩ := hol2.keeps hk
  have e := (SeqAt.readOf_eq (toD_lay _) r1).symm.trans (SeqAt.readOf_eq (toD_lay _) r2)
  have e := toD_inj e
  have hv2 : its[i]? = some v := by simpa using hv
  have hi : i < ws.length := by
    have := rv.length
    have := (List.getElem?_eq_some_iff.mp hv2).1
    omega
  obtain ⟨u, hu2, ru⟩ := rv.get (List.getElem?_eq_getElem hi)
  rw [hv2] at hu2
  cases hu2
  exact ⟨_, H, I.kept hk, ru, q _ i (List.getElem?_eq_getElem hi) (by rw [hy, ← e]; rfl)⟩
theorem room_u3 {k : Nat} {A : Around} (hr : Room k A) : A.units + 3 < cLine := by have := hr.un; omega
theorem b_maxT {W : Wd} {X : Cx} (hK : X.K = W.K) (hc : X.calm = true) (hu : X.A.units + 3 < cLine) : BltOk W X "max" maxTF := by
  refine ⟨_, cr_maxP hc hu, ?_⟩
  rw [hK]
  intro F H g ds d vs Q c rr e k
  cases ds with
  | nil => cases e
  | cons y ys =>
    cases ys with
    | cons _ _ => cases y <;> cases e
    | nil =>
      obtain ⟨v, rfl, rv⟩ := look1 rr
      cases y <;> try (cases e; done)
      rename_i xs
      simp only [maxTF] at e
      split at e
      · rename_i p ps hp
        cases e
        have hx := pairsOf_eq hp
        obtain ⟨a, us, rfl, t, _, r⟩ := rv
        obtain ⟨h1, _, _⟩ := dps_of r (by rw [hx]; exact okds_pr (p :: ps))
        rw [hx, toPds_pr] at h1
        refine ⟨a, us, p, ps, rfl, .of t, h1, fun v j hv hj => ?_⟩
        obtain ⟨d, h2, h3⟩ := r.get' hv
        rw [hx, List.getElem?_map, hj] at h2
        cases h2
        exact k H _ (fun _ _ h => h) c h3
      · cases e
end Ev

/-! Ev42: a new list that others may change (a cell); append to a cell. -/
namespace Ev
open PySem PySem.Spec PyProof.Rows L2
section
variable {W : Wd} {E : XK} {X : Cx} {F : Fb} {H : Hp} {g : List Cell} {a : Expr} {pos : Pos} {mo ma : M D}
theorem Up.th1 {p : Addr} {o : HO} (np : H p = none) : Up F ⟨F.nu, F.om, F.th ++ [p]⟩ H (upd H p o) := by
  refine ⟨fun b u e n => ⟨keep_new np b u e, fun z => ?_⟩, [p], rfl⟩
  rcases z with z | z | z
  · exact n (.inl z)
  · exact n (.inr (.inl z))
  · rcases List.mem_append.mp z with z | z
    · exact n (.inr (.inr z))
    · rw [List.mem_singleton.mp z, np] at e; cases e
def newM (m : M (List D)) : M D := fun e g => (m e g).bind fun ds g1 => .ok (.g g1.length) (g1 ++ [.lst ds])
theorem ev_new {m : M (List D)} (h : PE X a (tF W E m)) : PE X a (tM W E (newM m)) := weakE h fun σ H Q ⟨F, e, g, S, p⟩ => by
  refine ⟨F, e, g, S, (Post.bind p).mono fun ds g1 F1 H1 x1 c1 p1 q vs nq r => ?_⟩
  obtain ⟨h1, h2, h3⟩ := cell_new (ce := .lst ds) (o := .lst vs) c1 nq ⟨vs, upd_same, r.up (Up.th1 nq)⟩
  exact p1 _ _ h1 h2 _ ⟨q, h3, rfl⟩
def appC (mo m : M D) : MS := fun e g => (mo e g).toS fun x g0 => match x with
  | .g n => match g0[n]? with
    | some (.lst _) => (m e g0).toS fun d g1 => match g1[n]? with
      | some (.lst ds) => if ds.length < 16777216 then .nx e (g1.set n (.lst (ds ++ [d]))) else .bad
      | _ => .bad
    | _ => .bad
  | _ => .bad
theorem es_appC (h0 : PE X a (tBM X.K "list" rAppend (tM W E mo) (tCons (tM W E ma) tNil))) (hs : swapsWith a none pos.line X.env = pure false := by rfl) : PS X (.Expr a pos) (tMS W E (appC mo ma)) := weakS (ps_expr h0 hs) fun D0 σ H ⟨F, e, g, S, p⟩ => by
  unfold appC at p
  refine ⟨F, e, g, S, p.toS.mono fun x g0 F0 H0 x0 c0 k0 u ru => ?_⟩
  cases x <;> try exact k0.elim
  rename_i n
  obtain ⟨l, h2, rfl⟩ := ru
  cases q : g0[n]? with
  | none => simp only [q] at k0; exact k0.elim
  | some cc =>
    cases cc <;> try (simp only [q] at k0; exact k0.elim)
    rename_i ds0
    simp only [q] at k0
    obtain ⟨vs0, z3, z4⟩ := c0.cel n l _ h2 q
    have S0 := S.step x0 c0
    refine ⟨ty_list z3, F0, e, g0, S0, k0.toS.mono fun d g1 F1 H1 x1 c1 k1 v r => ?_⟩
    have S1 := S0.step x1 c1
    obtain ⟨l', h5, e5⟩ := Rep.up (W := W) x1.up (show Rep W F0 H0 (.g n) (.ref l) from ⟨l, h2, rfl⟩)
    cases e5
    cases q1 : g1[n]? with
    | none => simp only [q1] at k1; exact k1.elim
    | some cc =>
      cases cc <;> try (simp only [q1] at k1; exact k1.elim)
      rename_i ds
      simp only [q1] at k1
      obtain ⟨vs, y3, y4⟩ := c1.cel n l _ h5 q1
      split at k1
      · rename_i hl
        refine ⟨l, vs, v, rfl, rfl, y3, by rw [sizeLine_eq, ← y4.length]; exact hl, ?_⟩
        obtain ⟨xe, S3⟩ := S1.wrC h5 ⟨vs, y3⟩ (y4.append (RepL.one r))
        exact k1 F1 σ _ xe.xs S3
      · exact k1.elim
/-- list(x), x a cell -/
def lstC (mo : M D) : M (List D) := fun e g => (mo e g).bind fun x g1 => match x with
  | .g n => match g1[n]? with
    | some (.lst ds) => .ok ds g1
    | _ => .bad
  | _ => .bad
theorem ev_listC {x : Str} {p1 : Pos} (hg : Gl X x) (hm : X.mg x = none) (hv : bootBuiltins x = some (.type "list")) (ha : PE X a (tM W E mo)) (hn : x ≠ "__name__" := by decide) (hdb : (x == ("__debug__" : Str)) = false := by decide)
    (he : starEach [a] X.env = (false, eval a X.env) :: starEach [] X.env := by rfl) (hpl : (backTo pos (starEach [] X.env)).any (·.1) = false := by rfl) : PE X (.Call (.Name x p1) [a] [] pos) (tF W E (lstC mo)) :=
  weakE (pe_callTy call_list_of hg hm hv (pa_cons ha pa_nil (hs := he)) hn hdb he hpl) fun σ H Q ⟨F, e, g, S, p⟩ => by
    refine ⟨F, e, g, S, (Post.bind p).mono fun x g1 F1 H1 x1 c1 p1 v r1 => ?_⟩
    cases x <;> try exact p1.elim
    rename_i n
    obtain ⟨l, h2, rfl⟩ := r1
    cases q : g1[n]? with
    | none => simp only [q] at p1; exact p1.elim
    | some cc =>
      cases cc <;> try (simp only [q] at p1; exact p1.elim)
      rename_i ds
      simp only [q] at p1
      obtain ⟨vs, z3, z4⟩ := c1.cel n l _ h2 q
      exact ⟨l, vs, rfl, .inl (.of z3), fun p np => p1 F1 H1 .refl c1 p vs np z4⟩
end
end Ev

/-! Ev43: a + b of lists as a new list of this frame. -/
namespace Ev
open PySem PySem.Spec PyProof.Rows L2
section
variable {W : Wd} {E : XK} {X : Cx} {a b : Expr} {pos : Pos} {ma mb : M D}
def addFF (ma mb : M D) : M (List D) := fun e g => (ma e g).bind fun x g1 => (mb e g1).bind fun y g2 => match x, y with
  | .lst xs, .lst ys => if xs.length + ys.length ≤ 16777216 then .ok (xs ++ ys) g2 else .bad
  | _, _ => .bad
theorem ev_addF (ha : PE X a (tS W E ma)) (hb : PE X b (tS W E mb)) : PE X (.BinOp a .Add b pos) (tF W E (addFF ma mb)) := weakE (pe_op op_cat ha hb) fun σ H Q ⟨F, e, g, S, p⟩ => by
  refine ⟨F, e, g, S, (Post.bind p).mono fun x g1 F1 H1 x1 c1 p1 v r1 => ?_⟩
  refine ⟨F1, e, g1, S.step x1 c1, (Post.bind p1).mono fun y g2 F2 H2 x2 c2 p2 u r2 => ?_⟩
  cases x <;> try exact p2.elim
  cases y <;> try exact p2.elim
  rename_i xs ys
  simp only at p2
  split at p2
  · rename_i hc
    obtain ⟨a, vs, rfl, ta, _, ra⟩ := r1.up x2
    obtain ⟨b, us, rfl, tb, _, rb⟩ := r2
    exact ⟨a, b, vs, us, rfl, rfl, ta, tb, by rw [sizeLine_eq, ← ra.length, ← rb.length]; exact hc, fun p np => p2 F2 H2 .refl c2 p _ np (ra.append rb)⟩
  · exact p2.elim
end
end Ev

/-! Ev78: bool(x), own == of other things, an __init__(*items) that lets exceptions out. -/
namespace PySem.W
open PySem PySem.Spec PySem.Calls PyProof.Rows
theorem bool_new_in {prog : Program} {w : World} {x : Value} : MeetsIn prog w (Builtin.«bool.__new__» ⟨[.type "bool", x], []⟩) (fun A R s => wpAny (model prog w) A.in1 (truthy x) (fun b s' => R (.ok (.ret (.bool b))) s') (fun e s' => R (.error e) s') s) :=
  .of_wp fun A R s h => by
    have f1 := F.conv_sub_bool
    unfold Builtin.«bool.__new__»
    generalize hT : truthy = T at h ⊢
    repeat (any_goals (first | assumption | wp_step))
    exact wpAny_mono h (fun b s' z => wpAny_pure ⟨_, rfl, z⟩) fun _ _ z => z
theorem bool_of {prog : Program} {w : World} {A : Around} {E : Value → Shared → Prop} {s : Shared} {x : Value} {Q : Value → Shared → Prop} (h : wpAny (model prog w) A.in1.in1 (truthy x) (fun b s' => Q (.bool b) s') E s) : wpAny (model prog w) A (call (.type "bool") [x]) Q E s :=
  callType_newIn F.called_bool F.newNe_bool (F.typeCall_bool_1 x) (F.newCall_bool_1 x) (fun obj => F.args_object_init_2 obj x) F.entry_bool_new bool_new_in
    (wpAny_mono h (fun b s' z => ⟨by show Shared.TypeIs s' (.bool b) "bool"; rfl, z⟩) fun _ _ z => z)
end PySem.W
namespace Ev
open PySem PySem.Spec PyProof.Rows L2 NdefX
/-- bool(x) of an int, a truth value -/
def boolF : List D → List Cell → Option D := fun ds _ => match ds with
  | [.int i] => some (.bl (i != 0))
  | [.bl b] => some (.bl b)
  | _ => none
section
variable {W : Wd} {E : XK} {X : Cx} {CX : CXT} {k : Nat} {g : Addr} {sp : Sp} {fs : List D → List Cell → R D} {a b : Expr} {ma mb : M D} {pos p1 : Pos}
theorem t_bool : TyOk W X "bool" boolF := by
  refine ⟨_, call_bool1, ?_⟩
  intro F H g ds d vs Q c rr e k
  cases ds with
  | nil => cases e
  | cons y ys =>
    cases ys with
    | cons _ _ => cases y <;> cases e
    | nil =>
      obtain ⟨v, rfl, rv⟩ := look1 rr
      cases y <;> try (cases e; done)
      · cases e
        exact .inr ⟨_, by rw [show v = _ from rv], k H _ (fun _ _ h => h) c (rep_bl _)⟩
      · cases e
        exact .inl ⟨_, by rw [show v = _ from rv], k H _ (fun _ _ h => h) c (rep_bl _)⟩
/-- bool(o) of an own object -/
def ruBool (f : List D → List Cell → R D) (m : M (List D)) : M D := fun e g => (m e g).bind fun ds g1 => match ds with
  | [x] => if isRu x = true then asBl false (f [x] g1) else .bad
  | _ => .bad
def rRuBool (W : Wd) (sp : Sp) (E : XK) : List V → Hp → VK → Prop := fun xs H Q => ∃ x c, xs = [x] ∧ InsRu W H x c ∧ sp [x] H (fun v H' => ∃ b, v = .bl b ∧ Q (.bl b) H') E
theorem call_ruBool (hK : X.K = W.K) (B : OwnM W "__bool__" g) (F : FnP X.prog X.w X.K X.mg X.base CX k g sp) (hG : X.A.guards = some []) (hr : Room (k + 2) X.A) (px : Passes CX X E) : CallR X (.type "bool") (rRuBool W sp E) := by
  rintro pins s σ H xs us Q I r ⟨x, c, ex, ⟨a, dx, ws, rfl, hc, ha⟩, h⟩
  subst ex
  obtain ⟨u, rfl, rx⟩ := vals1 r
  cases rx
  obtain ⟨ox, od, J, _⟩ := ins_at I ha
  obtain ⟨m, hF⟩ := I.fr
  have kin := I.ok.mod.kin
  rw [hK] at kin
  exact PySem.W.bool_of (PySem.W.truthy_K hF kin J (B.at_ c hc) B.fn (wpAny_mono (run_at (A := X.A.in1.in1) F hG hr.in1.in1 rfl px I (.cons (a := V.ref a) (F := RelV) rfl .nil) h) (fun z s' q => by
    obtain ⟨v, H', I', rv, b, rfl, q⟩ := q
    cases rv
    exact ⟨.bl b, H', I', rfl, q⟩) fun _ _ z => z))
theorem ev_ruBool {x : Str} {m : M (List D)} (hK : X.K = W.K) (B : OwnM W "__bool__" g) (M : FnP X.prog X.w X.K X.mg X.base CX k g (spEv W 1 fs)) (hG : X.A.guards = some []) (hr : Room (k + 2) X.A) (px : Passes CX X E) (hg : Gl X x) (hm : X.mg x = none) (hv : bootBuiltins x = some (.type "bool"))
    (ha : PA X [a] (tL W E m)) (hn : x ≠ "__name__" := by decide) (hdb : (x == ("__debug__" : Str)) = false := by decide) (he : starEach [a] X.env = (false, eval a X.env) :: starEach [] X.env := by rfl) (hpl : (backTo pos (starEach [] X.env)).any (·.1) = false := by rfl) :
    PE X (.Call (.Name x p1) [a] [] pos) (tM W E (ruBool fs m)) :=
  weakE (pe_callTy (call_ruBool hK B M hG hr px) hg hm hv ha hn hdb he hpl) fun σ H Q ⟨F, e, g, S, p⟩ => by
    refine ⟨F, e, g, S, (Post.bind p).mono fun ds g1 F1 H1 x1 c1 p1 vs rr => ?_⟩
    match ds, p1, rr with
    | [x], p1, rr =>
      obtain ⟨v, r, rfl, rx, r0⟩ := rr
      cases (show r = [] from r0)
      obtain ⟨h1, p1⟩ := post_ite (g := g1) p1
      refine ⟨v, _, rfl, insRu_of rx h1, sp_in (n := 1) (ds := [x]) c1 (RepL.one rx) ?_⟩
      rw [if_pos (show [x].length = 1 from rfl)]
      exact (post_bl p1).mono fun d g2 F2 H2 x2 c2 p2 w rw => p2 w rw
    | [], p1, rr => exact p1.elim
    | _ :: _ :: _, p1, rr => exact p1.elim
/-! ### own == of another thing -/
/-- plain data: of no own class -/
def isPlD : D → Bool
  | .non | .bl _ | .int _ | .str _ | .tup _ | .lst _ => true
  | _ => false
def kRuEq (neg : Bool) (f : List D → List Cell → R D) : D → D → List Cell → R D := fun x y g => if isRu x = true ∧ isPlD y = true then asBl neg (f [x, y] g) else .bad
theorem looks_ty {M : Model} {s : Shared} {v : Value} {T : String} (h : s.TypeIs v T) : PySem.W.Looks M s.heap (typeOf v) (.type T) := by
  cases v with
  | ref a =>
    obtain ⟨o, ho, hc⟩ := h
    exact fun A Q E s k q => wpAny_typeOf_ref (k _ _ ho) (by rw [hc]; exact q)
  | _ => exact .of_pure h
/-- a value of a plain kind -/
def PlV (X : Cx) (H : Hp) (y : V) : Prop := ∀ (pins : List (Addr × Obj)) (σ : L2.St) (s : Shared) (u : Value), Inv X pins σ H s → RelV y u → ∃ T : String, s.TypeIs u T ∧ ∀ C : Addr, PySem.W.notFirst X.K C (.type T) = true
theorem nf_tuple (K : PySem.W.Frag) (C : Addr) : PySem.W.notFirst K C (.type "tuple") = true := by rfl
theorem nf_list (K : PySem.W.Frag) (C : Addr) : PySem.W.notFirst K C (.type "list") = true := by rfl
theorem nf_int (K : PySem.W.Frag) (C : Addr) : PySem.W.notFirst K C (.type "int") = true := by rfl
theorem nf_bool (K : PySem.W.Frag) (C : Addr) : PySem.W.notFirst K C (.type "bool") = true := by rfl
theorem nf_str (K : PySem.W.Frag) (C : Addr) : PySem.W.notFirst K C (.type "str") = true := by rfl
theorem nf_none (K : PySem.W.Frag) (C : Addr) : PySem.W.notFirst K C (.type "NoneType") = true := by rfl
theorem plv_of {F : Fb} {H : Hp} {y : D} {v : V} (hK : X.K = W.K) (h : Rep W F H y v) (e : isPlD y = true) : PlV X H v := by
  intro pins σ s u I r
  cases y <;> try (cases e; done)
  · cases (show v = .non from h)
    cases r
    exact ⟨_, rfl, nf_none _⟩
  · rename_i b
    cases (show v = .bl b from h)
    cases r
    exact ⟨_, rfl, nf_bool _⟩
  · rename_i i
    cases (show v = .int i from h)
    obtain ⟨t, rfl⟩ := r
    exact ⟨_, rfl, nf_int _⟩
  · rename_i x
    cases (show v = .str x from h)
    obtain ⟨t, rfl⟩ := r
    exact ⟨_, rfl, nf_str _⟩
  · obtain ⟨q, vs, rfl, t, rr⟩ := h
    cases r
    obtain ⟨its, rv, p, hz⟩ := I.tuple (by rw [hK]; exact t.seq)
    exact ⟨_, (show s.heap.IsTuple q its.toArray from p).typeIs, nf_tuple _⟩
  · obtain ⟨q, vs, rfl, t, n, rr⟩ := h
    cases r
    obtain ⟨its, rv, p, hz⟩ := I.list (.of t)
    exact ⟨_, p.isList.typeIs, nf_list _⟩
def rRuQ (W : Wd) (X : Cx) (sp : Sp) (E : XK) : R2 := fun x y H Q => ∃ c, InsRu W H x c ∧ PlV X H y ∧ sp [x, y] H (fun v H' => ∃ b, v = .bl b ∧ Q (.bl (if false then !b else b)) H') E
theorem op_ruQ (hK : X.K = W.K) (B : OwnE W g) (F : FnP X.prog X.w X.K X.mg X.base CX k g sp) (hG : X.A.guards = some []) (hr : Room (k + 1) X.A) (px : Passes CX X E) : OpR X (compareOp .Eq) (rRuQ W X sp E) := by
  rintro pins s σ H x y v u Q I rx ry ⟨c, ⟨a, dx, us, rfl, hc, ha⟩, pl, h⟩
  cases rx
  obtain ⟨ox, od, J, _⟩ := ins_at I ha
  obtain ⟨T, hT, hn⟩ := pl pins σ s u I ry
  rw [hK] at hn
  have kin := I.kIn
  rw [hK] at kin
  have hu : X.A.units < cLine := by have := hr.un; omega
  show wpAny _ _ (richCompare .Eq _ _) _ _ _
  refine PySem.W.rc_left hu kin J (looks_ty hT) (hn _) (PySem.W.try_fn kin J (B.m.at_ c hc) B.m.fn ?_)
  refine wpAny_mono (run_at F hG (hr.mono (Nat.le_succ _)) rfl px I (.cons (a := V.ref a) (F := RelV) rfl (.cons ry .nil)) h) (fun z s' q => ?_) fun _ _ z => z
  obtain ⟨b, rfl, q2⟩ := ep_bool q
  exact ⟨_, rfl, q2⟩
theorem c_ruQ (hK : X.K = W.K) (B : OwnE W g) (M : FnP X.prog X.w X.K X.mg X.base CX k g (spEv W 2 fs)) (hG : X.A.guards = some []) (hr : Room (k + 1) X.A) (px : Passes CX X E) : CmpRu W E X .Eq (kRuEq false fs) := by
  refine ⟨_, op_ruQ hK B M hG hr px, fun F H g x y v u Q c rx ry p => ?_⟩
  obtain ⟨⟨h1, h2⟩, p⟩ := post_ite (g := g) p
  exact ⟨_, insRu_of rx h1, plv_of hK ry h2, sp2 c rx ry (post_bl p)⟩
end
/-! ### an __init__(*items) -/
section
variable {P : Program} {w : World} {mg : Str → Option Value} {base : Heap} {W : Wd} {k c : Nat} {x0 qual pv fld : Str} {st : Stmt} {f : Addr} {fd : FuncData} {N : List Str} {t : M Bool} {r : MS} {m : M D} {cnd e : Expr} {rs : List Stmt} {p1 p2 p3 p4 : Pos}
theorem in_starX (F : Fun W.K x0 qual st f fd) (S : FnScope N ((["self"] : List Str) ++ [pv]) (defScope st)) (hN : N[0]? = some ("self" : Str))
    (hb : ∀ us rest : List Value, us.length = (["self"] : List Str).length → bindArgs fd ⟨us ++ rest, []⟩ = (newTuple rest >>= fun t => pure ((["self"] : List Str).zip us ++ [(pv, t)])))
    (hbody : defBody st = [.If cnd rs [] p1, .Assign [.Attribute (.Name "self" p2) fld p3] e p4]) (hcl : Cls W.K (W.cl c)) (hna : NoAttr W.K (W.cl c) fld) (hf : W.fd c = fld)
    (h : ∀ (cdv : Value) (A : Around) (out : List PySem.Env) (s : Shared) (H : Hp) (E : XK), (A.deeper (envOfC qual (defScope st) s.heap.objs.size f cdv)).guards = some [] → Room k (A.deeper (envOfC qual (defScope st) s.heap.objs.size f cdv)) →
      Takes (cxOf (L2.CX P w) P w W.K mg base N qual (defScope st) f cdv A out s H E) (fun cls d _ H => E cls d H) →
      PT (cxOf (L2.CX P w) P w W.K mg base N qual (defScope st) f cdv A out s H E) cnd (tB W E t) ∧ PSs (cxOf (L2.CX P w) P w W.K mg base N qual (defScope st) f cdv A out s H E) rs (tMS W E r) ∧ PE (cxOf (L2.CX P w) P w W.K mg base N qual (defScope st) f cdv A out s H E) e (tM W E m) ∧
      Vis (cxOf (L2.CX P w) P w W.K mg base N qual (defScope st) f cdv A out s H E).env.scope "self" ∧ swapsWith e (some (.Attribute (.Name "self" p2) fld p3)) p4.line (cxOf (L2.CX P w) P w W.K mg base N qual (defScope st) f cdv A out s H E).env = pure false) :
    FnP P w W.K mg base (L2.CX P w) (k + 1) f (spIn W c (inStar (inM N.length t r m))) := by
  obtain ⟨oc, od, kV, doc, pm, an, cdv, ct, osl, rfl, lk, hcd⟩ := F.ex
  intro A outer s H us vs Q E hg hr e0 rv ⟨x, dx, rest, nu, th, ds, g, ev, hx, hxn, cc, rr, p⟩
  subst ev
  obtain ⟨u1, u2, eu, r1, r2⟩ := StX.vals_split (ws := [V.ref x]) (rest := rest) rv
  subst eu
  have hn : H s.heap.objs.size = Option.none := e0.hok.fresh (Nat.le_refl _)
  have hl1 : u1.length = (["self"] : List Str).length := by rw [← r1.length]; rfl
  unfold inStar at p
  have hz : ds.length ≤ 16777216 := by
    by_cases q : ds.length ≤ 16777216
    · exact q
    · rw [if_neg q] at p; exact p.elim
  rw [if_pos hz] at p
  have hz2 : rest.length ≤ sizeLine := by rw [← rr.length]; exact hz
  refine StX.run_bnd lk hcd S hr e0 (G := fun xs H2 => ∃ q, H q = Option.none ∧ xs = [V.ref x] ++ [V.ref q] ∧ H2 = upd H q (.tup rest)) (fun A' Ex Q' h => ?_) fun s2 H2 xs ⟨q, hq, ex, eH⟩ hr' => ?_
  · rw [hb u1 u2 hl1]
    refine wpAny_bind (wpAny_newTuple (wpAny_pure ?_) (by rw [← r2.length]; exact hz2))
    have new : ObjOk P w (upd H s.heap.objs.size (.tup rest)) (s.heap.push ({ cls := .type "tuple", data := .seq u2.toArray } : Obj)) s.heap.objs.size (.tup rest) := ⟨hz2, u2, r2, ⟨_, Heap.get?_push_size _ rfl, rfl, _, rfl⟩⟩
    have un := StX.un_laid (fs := frs outer) (s := s) (o := ({ cls := .type "tuple", data := .seq u2.toArray } : Obj)) (u := .tup rest) hn
    have z := h _ _ ([V.ref x] ++ [V.ref s.heap.objs.size]) (u1 ++ [Value.ref s.heap.objs.size]) (StX.env0_laid e0 new) un rfl (fun e s' => StX.cxUp outer s H _ _ E e s' un (fun b o q => Heap.get?_push_of_some _ q) rfl) (r1.append (.cons rfl .nil))
      rfl ⟨_, hn, rfl, rfl⟩
    rw [List.zip_append hl1.symm] at z
    exact z
  · subst ex eH
    obtain ⟨d1, d2, d3, d4, d5⟩ := h cdv A outer s2 (upd H q (.tup rest)) E hg hr' (takes_of rfl rfl rfl rfl)
    have nq : ¬ (⟨nu, [], th⟩ : Fb).has q := cc.none hq
    have tup : RepL W ⟨nu, [], th⟩ (upd H q (.tup rest)) [.tup ds] [V.ref q] := RepL.one ⟨q, rest, rfl, .inl ⟨.inl upd_same, nq⟩, rr.up (Xe.new hq).up⟩
    have S0 := inE_st (N := N) (x := x) (cc.new hq) tup (List.getElem?_eq_some_iff.mp hN).1
    obtain ⟨tt, h1, h2⟩ := in_body (p1 := p1) (Q := Q) (dx := dx) hN d4 d1 d2 d3 d5 hcl hna hf S0 rfl (by rw [upd_ne (ne_of_none hx hq)]; exact hx) hxn (p.on (Xe.new hq))
    exact ⟨tt, by rw [hbody]; exact h1, h2⟩
end
end Ev

/-! Ev81: d.get(k, x) of a dict of ints. -/
namespace Ev
open PySem PySem.Spec PyProof.Rows L2
section
variable {W : Wd} {E : XK} {X : Cx} {k : Nat} {o e f : Expr} {apos cpos : Pos} {mo me mx : M D}
def dgetO (mo mk mx : M D) : M D := fun e g => (mo e g).bind fun x g1 => match dctOf x g1 with
  | some _ => (mk e g1).bind fun y g2 => (mx e g2).bind fun z g3 => match dctOf x g3, y with
    | some kvs, .int k => .ok (match valI kvs k with | some v => .int v | none => z) g3
    | _, _ => .bad
  | none => .bad
theorem ev_dget2 (hr : Room k X.A) (ho : PE X o (tM W E mo)) (he : PE X e (tM W E me)) (hf : PE X f (tM W E mx)) (m : M2 X o "get" apos e f cpos) : PE X (.Call (.Attribute o "get" apos) [e, f] [] cpos) (tM W E (dgetO mo me mx)) :=
  weakE (pe_dget2 (by have := hr.un; omega) ho he hf m) fun σ H Q ⟨F, en, g, S, p⟩ => by
    refine ⟨F, en, g, S, (Post.bind p).mono fun x g1 F1 H1 x1 c1 p1 v rx => ?_⟩
    cases q0 : dctOf x g1 with
    | none => rw [q0] at p1; exact p1.elim
    | some kvs0 =>
      rw [q0] at p1
      simp only at p1
      obtain ⟨a, e1, h1⟩ := dct_of c1 rx q0
      subst e1
      refine ⟨a, rfl, .inl ⟨_, h1⟩, F1, en, g1, S.step x1 c1, (Post.bind p1).mono fun y g2 F2 H2 x2 c2 p2 u ry => ?_⟩
      refine ⟨F2, en, g2, (S.step x1 c1).step x2 c2, (Post.bind p2).mono fun z g3 F3 H3 x3 c3 p3 t rz => ?_⟩
      cases q : dctOf x g3 with
      | none => rw [q] at p3; exact p3.elim
      | some kvs =>
        cases y <;> try (rw [q] at p3; exact p3.elim)
        rename_i key
        rw [q] at p3
        simp only at p3
        obtain ⟨a', e2, h2⟩ := dct_of c3 ((rx.up x2.up).up x3.up) q
        cases e2
        cases (show u = V.int key from ry)
        refine ⟨(valI kvs key).map V.int, dget_of h2 key, ?_⟩
        cases w : valI kvs key with
        | none =>
          rw [w] at p3
          exact p3 F3 H3 .refl c3 _ rz
        | some i =>
          rw [w] at p3
          exact p3 F3 H3 .refl c3 _ (rep_int i)
/-- the keys -/
def keyL (kvs : List (Int × Int)) : List D := kvs.map fun p => .int p.1
def keysIt (i : Nat) : M (List D) := fun e g => match e[i]? with
  | some (.v (.dct kvs)) => .ok (keyL kvs) g
  | _ => .bad
theorem ei_keys {X : Cx} {E : XK} {i : Nat} {x : Str} {tg : Expr} {p : Pos} (hN : X.N[i]? = some x := by rfl) (hv : Vis X.env.scope x := by first | exact Or.inl rfl | exact Or.inr (Or.inl rfl) | exact Or.inr (Or.inr rfl)) (hd : (x == ("__debug__" : Str)) = false := by decide)
    (hcd : (x == ("__classdict__" : Str)) = false := by decide) :
    PI X tg (.Name x p) (fun σ H R => Lk i σ H ∧ tIt W E (keysIt i) σ H R) :=
  weakI (pi_keys (pe_var hN hv hd hcd)) fun σ H R ⟨⟨a, o, k, h1, h2⟩, F, e, g, S, p⟩ => by
    unfold keysIt at p
    cases q : e[i]? with
    | none => rw [q] at p; exact p.elim
    | some sl =>
      rw [q] at p
      cases sl with
      | no => exact p.elim
      | own _ => exact p.elim
      | v d =>
        cases d <;> try exact p.elim
        rename_i kvs
        obtain ⟨v, h3, b, rfl, h4, hn⟩ := S.slots i _ q
        rw [h1] at h3
        cases h3
        obtain rfl := rd_eq h4 (.inr ⟨o, h2⟩)
        have hlen : (keyL kvs).length = (kvs.map dkv).length := by unfold keyL; rw [List.length_map, List.length_map]
        refine ⟨_, h1, a, o, rfl, .inl ⟨_, h2, p F H .refl S.cells _ ⟨fun H2 => H2 a = some (.frz o (.dK (kvs.map dkv))), (Itk a o (kvs.map dkv)).yld, ⟨fun j H2 hj hq => ⟨hq, by rw [← hlen]; exact hj⟩, fun H2 hq => ⟨hq, by rw [hlen]; exact Nat.le_refl _⟩, fun j H2 x H3 _ _ y => y⟩, fun F2 H2 u => (u.keep a _ h2 hn).1, ?_⟩⟩⟩
        rintro j H2 w H3 F2 g2 hj u c ⟨rfl, k, v0, e1, rfl⟩
        rw [List.getElem?_map] at e1
        obtain ⟨pr, e2, e3⟩ := Option.map_eq_some_iff.mp e1
        cases e3
        exact ⟨.int pr.1, by unfold keyL; rw [List.getElem?_map, e2]; rfl, rep_int _, fun _ _ h => h⟩
/-- a new list, one of two -/
def ifF (t : M Bool) (a b : M (List D)) : M (List D) := fun e g => (t e g).bind fun x g1 => if x = true then a e g1 else b e g1
theorem ev_ifF {c a b : Expr} {pos : Pos} {na : M Bool} {ma mb : M (List D)} (hc : PT X c (tB W E na)) (ha : PE X a (tF W E ma)) (hb : PE X b (tF W E mb)) : PE X (.IfExp c a b pos) (tF W E (ifF na ma mb)) :=
  weakE (pe_ifExp hc ha hb) fun σ H Q ⟨F, e, g, S, p⟩ => by
    refine ⟨F, e, g, S, (Post.bind p).mono fun x g1 F1 H1 x1 c1 p1 => ?_⟩
    cases x with
    | true => exact ⟨F1, e, g1, S.step x1 c1, p1⟩
    | false => exact ⟨F1, e, g1, S.step x1 c1, p1⟩
end
end Ev

/-! Ev82: a block that fills one new dict and leaves it as data. -/
namespace Ev
open PySem PySem.Spec PyProof.Rows L2
mutual
/-- no cell from the n-th on is named -/
def lowD (n : Nat) : D → Bool
  | .tup ds => lowDs n ds
  | .lst ds => lowDs n ds
  | .ob _ d => lowD n d
  | .g m => decide (m < n)
  | .exc _ d => lowD n d
  | .da ds => lowDs n ds
  | _ => true
def lowDs (n : Nat) : List D → Bool
  | [] => true
  | d :: ds => lowD n d && lowDs n ds
end
mutual
theorem Rep.lowN {W : Wd} {F F2 : Fb} {H : Hp} {n : Nat} (ht : ∀ m, m < n → F2.th[m]? = F.th[m]?) (hh : ∀ a, F2.has a → F.has a) : ∀ {d : D} {u : V}, lowD n d = true → Rep W F H d u → Rep W F2 H d u
  | .non, _, _, h => h
  | .bl _, _, _, h => h
  | .int _, _, _, h => h
  | .str _, _, _, h => h
  | .tup ds, _, l, h => by
    obtain ⟨a, vs, e, t, r⟩ := h
    refine ⟨a, vs, e, ?_, RepL.lowN ht hh (by simpa only [lowD] using l) r⟩
    rcases t with ⟨t, n⟩ | t
    · exact .inl ⟨t, fun z => n (hh a z)⟩
    · exact .inr t
  | .lst ds, _, l, h => by
    obtain ⟨a, vs, e, t, n, r⟩ := h
    exact ⟨a, vs, e, t, fun z => n (hh a z), RepL.lowN ht hh (by simpa only [lowD] using l) r⟩
  | .ob c d, _, l, h => by
    obtain ⟨a, dx, x, e, t, n, r⟩ := h
    exact ⟨a, dx, x, e, t, fun z => n (hh a z), Rep.lowN ht hh (by simpa only [lowD] using l) r⟩
  | .g m, _, l, h => by
    obtain ⟨a, e, r⟩ := h
    simp only [lowD, decide_eq_true_eq] at l
    exact ⟨a, by rw [ht m l]; exact e, r⟩
  | .sc ns, _, _, h => by
    obtain ⟨a, e, t⟩ := h
    refine ⟨a, e, ?_⟩
    rcases t with ⟨t, n⟩ | t
    · exact .inl ⟨t, fun z => n (hh a z)⟩
    · exact .inr t
  | .cl _, _, _, h => h
  | .dct _, _, _, h => by
    obtain ⟨a, e, t, n⟩ := h
    exact ⟨a, e, t, fun z => n (hh a z)⟩
  | .exc c d, _, l, h => by
    obtain ⟨a, dx, x, e, t, n, t2, n2, r⟩ := h
    exact ⟨a, dx, x, e, t, fun z => n (hh a z), t2, fun z => n2 (hh dx z), Rep.lowN ht hh (by simpa only [lowD] using l) r⟩
  | .da ds, _, l, h => by
    obtain ⟨a, vs, e, t, n, r⟩ := h
    exact ⟨a, vs, e, t, fun z => n (hh a z), RepL.lowN ht hh (by simpa only [lowD] using l) r⟩
theorem RepL.lowN {W : Wd} {F F2 : Fb} {H : Hp} {n : Nat} (ht : ∀ m, m < n → F2.th[m]? = F.th[m]?) (hh : ∀ a, F2.has a → F.has a) : ∀ {ds : List D} {us : List V}, lowDs n ds = true → RepL W F H ds us → RepL W F2 H ds us
  | [], _, _, h => h
  | d :: ds, _, l, h => by
    simp only [lowDs, Bool.and_eq_true] at l
    obtain ⟨v, r, e, a, b⟩ := h
    exact ⟨v, r, e, Rep.lowN ht hh l.1 a, RepL.lowN ht hh l.2 b⟩
end
mutual
theorem Rep.low0 {W : Wd} {F : Fb} {H : Hp} : ∀ {d : D} {u : V}, Rep W F H d u → lowD F.th.length d = true
  | .non, _, _ => rfl
  | .bl _, _, _ => rfl
  | .int _, _, _ => rfl
  | .str _, _, _ => rfl
  | .tup ds, _, h => by
    obtain ⟨a, vs, e, t, r⟩ := h
    simpa only [lowD] using RepL.low0 r
  | .lst ds, _, h => by
    obtain ⟨a, vs, e, t, n, r⟩ := h
    simpa only [lowD] using RepL.low0 r
  | .ob c d, _, h => by
    obtain ⟨a, dx, x, e, t, n, r⟩ := h
    simpa only [lowD] using Rep.low0 r
  | .g m, _, h => by
    obtain ⟨a, e, r⟩ := h
    simp only [lowD, decide_eq_true_eq]
    exact (List.getElem?_eq_some_iff.mp e).1
  | .sc ns, _, _ => rfl
  | .cl _, _, _ => rfl
  | .dct _, _, _ => rfl
  | .exc c d, _, h => by
    obtain ⟨a, dx, x, e, t, n, t2, n2, r⟩ := h
    simpa only [lowD] using Rep.low0 r
  | .da ds, _, h => by
    obtain ⟨a, vs, e, t, n, r⟩ := h
    simpa only [lowD] using RepL.low0 r
theorem RepL.low0 {W : Wd} {F : Fb} {H : Hp} : ∀ {ds : List D} {us : List V}, RepL W F H ds us → lowDs F.th.length ds = true
  | [], _, _ => rfl
  | d :: ds, _, h => by
    obtain ⟨v, r, e, a, b⟩ := h
    simp only [lowDs, Bool.and_eq_true]
    exact ⟨Rep.low0 a, RepL.low0 b⟩
end
def lowC (n : Nat) : Cell → Bool
  | .lst ds => lowDs n ds
  | .ob _ d => lowD n d
  | _ => true
/-- a slot behind the block -/
def fixS (n : Nat) (kvs : List (Int × Int)) : Slot → Option Slot
  | .no => some .no
  | .own ds => if lowDs n ds = true then some (.own ds) else none
  | .v d => match d with
    | .g m => if m = n then some (.v (.dct kvs)) else if m < n then some (.v (.g m)) else none
    | d => if lowD n d = true then some (.v d) else none
def fixE (n : Nat) (kvs : List (Int × Int)) : Env → Option Env
  | [] => some []
  | s :: e => match fixS n kvs s, fixE n kvs e with
    | some s, some e => some (s :: e)
    | _, _ => none
theorem fixE_at {n : Nat} {kvs : List (Int × Int)} : ∀ {e e2 : Env}, fixE n kvs e = some e2 → e2.length = e.length ∧ ∀ (i : Nat) (s2 : Slot), e2[i]? = some s2 → ∃ s : Slot, e[i]? = some s ∧ fixS n kvs s = some s2
  | [], e2, h => by
    cases h
    exact ⟨rfl, fun i s2 h => by cases h⟩
  | s :: e, e2, h => by
    unfold fixE at h
    cases q : fixS n kvs s with
    | none => rw [q] at h; cases h
    | some s' =>
      cases q2 : fixE n kvs e with
      | none => rw [q, q2] at h; cases h
      | some e' =>
        rw [q, q2] at h
        cases h
        obtain ⟨h1, h2⟩ := fixE_at q2
        refine ⟨by simp only [List.length_cons, h1], fun i s2 hi => ?_⟩
        cases i with
        | zero => cases hi; exact ⟨s, rfl, q⟩
        | succ i => exact h2 i s2 hi
def boxS (m : MS) : MS := fun e g => match m e g with
  | .nx e1 g1 => match g1[g.length]? with
    | some (.dct kvs) => if g1.length = g.length + 1 ∧ eqG (g1.take g.length) g = true then (match fixE g.length kvs e1 with
      | some e2 => .nx e2 (g1.take g.length)
      | none => .bad) else .bad
    | _ => .bad
  | _ => .bad
theorem fix_o {n : Nat} {kvs : List (Int × Int)} {ds : List D} : fixS n kvs (.own ds) = if lowDs n ds = true then some (.own ds) else none := rfl
theorem fix_g {n m : Nat} {kvs : List (Int × Int)} : fixS n kvs (.v (.g m)) = if m = n then some (.v (.dct kvs)) else if m < n then some (.v (.g m)) else none := rfl
theorem fix_d {n : Nat} {kvs : List (Int × Int)} {d : D} (h : ∀ m, d ≠ .g m) : fixS n kvs (.v d) = if lowD n d = true then some (.v d) else none := by
  cases d <;> first | rfl | exact absurd rfl (h _)
theorem fix_v {n : Nat} {kvs : List (Int × Int)} {s : Slot} {d : D} (h : fixS n kvs s = some (.v d)) : (s = .v (.g n) ∧ d = .dct kvs) ∨ (s = .v d ∧ lowD n d = true) := by
  cases s with
  | no => cases h
  | own ds =>
    rw [fix_o] at h
    by_cases l : lowDs n ds = true
    · rw [if_pos l] at h; cases h
    · rw [if_neg l] at h; cases h
  | v d0 =>
    by_cases q : ∃ m, d0 = .g m
    · obtain ⟨m, rfl⟩ := q
      rw [fix_g] at h
      by_cases e : m = n
      · rw [if_pos e] at h
        cases h
        exact .inl ⟨by rw [e], rfl⟩
      · rw [if_neg e] at h
        by_cases l : m < n
        · rw [if_pos l] at h
          cases h
          exact .inr ⟨rfl, by simp only [lowD, decide_eq_true_eq]; exact l⟩
        · rw [if_neg l] at h; cases h
    · rw [fix_d fun m e => q ⟨m, e⟩] at h
      by_cases l : lowD n d0 = true
      · rw [if_pos l] at h
        cases h
        exact .inr ⟨rfl, l⟩
      · rw [if_neg l] at h; cases h
theorem fix_own {n : Nat} {kvs : List (Int × Int)} {s : Slot} {ds : List D} (h : fixS n kvs s = some (.own ds)) : s = .own ds ∧ lowDs n ds = true := by
  cases s with
  | no => cases h
  | own ds' =>
    rw [fix_o] at h
    by_cases l : lowDs n ds' = true
    · rw [if_pos l] at h
      cases h
      exact ⟨rfl, l⟩
    · rw [if_neg l] at h; cases h
  | v d0 =>
    by_cases q : ∃ m, d0 = .g m
    · obtain ⟨m, rfl⟩ := q
      rw [fix_g] at h
      by_cases e : m = n
      · rw [if_pos e] at h; cases h
      · rw [if_neg e] at h
        by_cases l : m < n
        · rw [if_pos l] at h; cases h
        · rw [if_neg l] at h; cases h
    · rw [fix_d fun m e => q ⟨m, e⟩] at h
      by_cases l : lowD n d0 = true
      · rw [if_pos l] at h; cases h
      · rw [if_neg l] at h; cases h
section
variable {W : Wd} {E : XK} {X : Cx}
theorem CellR.lowN {F F2 : Fb} {H : Hp} {n : Nat} {a : Addr} {c : Cell} (ht : ∀ m, m < n → F2.th[m]? = F.th[m]?) (hh : ∀ a, F2.has a → F.has a) (l : lowC n c = true) (h : CellR W F H a c) : CellR W F2 H a c := by
  cases c with
  | lst ds =>
    obtain ⟨vs, h1, h2⟩ := h
    exact ⟨vs, h1, RepL.lowN ht hh l h2⟩
  | ob c d =>
    obtain ⟨dx, u, h1, h2⟩ := h
    exact ⟨dx, u, h1, Rep.lowN ht hh l h2⟩
  | dct kvs => exact h
  | tbl m => exact ⟨h.1, h.2.down hh⟩
theorem CellR.low0 {F : Fb} {H : Hp} {a : Addr} {c : Cell} (h : CellR W F H a c) : lowC F.th.length c = true := by
  cases c with
  | lst ds => obtain ⟨vs, h1, h2⟩ := h; exact RepL.low0 h2
  | ob c d => obtain ⟨dx, u, h1, h2⟩ := h; exact Rep.low0 h2
  | dct kvs => rfl
  | tbl m => rfl
theorem St.box {F F2 : Fb} {H H2 : Hp} {e e1 e2 : Env} {g g1 : List Cell} {σ σ2 : L2.St} {kvs : List (Int × Int)} (S : St W F e g σ H) (x : Xs F F2 H H2) (s : St W F2 e1 g1 σ2 H2) (hc : g1[g.length]? = some (.dct kvs)) (hl : g1.length = g.length + 1)
    (hlo : eqG (g1.take g.length) g = true) (hf : fixE g.length kvs e1 = some e2) : ∃ F3, Xs F F3 H H2 ∧ St W F3 e2 (g1.take g.length) σ2 H2 := by
  obtain ⟨more, hm, hn⟩ := x.th
  have l1 := S.cells.len
  have l2 := s.cells.len
  obtain ⟨a, rfl⟩ : ∃ a, more = [a] := by
    rw [hm, List.length_append] at l2
    match more, l2 with
    | [], l2 => simp only [List.length_nil] at l2; omega
    | [a], _ => exact ⟨a, rfl⟩
    | _ :: _ :: _, l2 => simp only [List.length_cons] at l2; omega
  have hta : F2.th[g.length]? = some a := by rw [hm, ← l1, List.getElem?_append_right (Nat.le_refl _), Nat.sub_self]; rfl
  have hca : H2 a = some (.dK (kvs.map dkv)) := s.cells.cel _ a _ hta hc
  have hnd := s.cells.nd
  have hat : a ∉ F.th := by
    rw [hm] at hnd
    intro z
    exact (List.nodup_append.mp hnd).2.2 a z a (List.mem_singleton.mpr rfl) rfl
  have hma : a ∈ F2.th := List.mem_of_getElem? hta
  have hda := s.cells.dj a hma
  have ht : ∀ m, m < g.length → (⟨F2.nu, F2.om, F.th⟩ : Fb).th[m]? = F2.th[m]? := fun m hlt => by
    show F.th[m]? = _
    rw [hm, List.getElem?_append_left (by omega)]
  have hh : ∀ b, (⟨F2.nu, F2.om, F.th⟩ : Fb).has b → F2.has b := fun b z => by
    rcases z with z | z | z
    · exact .inl z
    · exact .inr (.inl z)
    · exact .inr (.inr (by rw [hm]; exact List.mem_append_left _ z))
  have hna : ¬ (⟨F2.nu, F2.om, F.th⟩ : Fb).has a := fun z => by
    rcases z with z | z | z
    · exact hda.1 z
    · exact hda.2 z
    · exact hat z
  obtain ⟨fl, fa⟩ := fixE_at hf
  refine ⟨⟨F2.nu, F2.om, F.th⟩, ⟨x.keep, x.st, ⟨[], by simp, by simp⟩, x.nu, x.om⟩, ⟨S.cells.nd, ?_, ?_, fun b z => s.cells.tr b (hh b z), fun b z => s.cells.dj b (by rw [hm]; exact List.mem_append_left _ z), s.cells.dj2⟩, fl.trans s.len, ?_, ?_, ?_⟩
  · show F.th.length = _
    rw [List.length_take, l1]
    omega
  · intro m b c h1 h2
    have hlt : m < g.length := by
      have := (List.getElem?_eq_some_iff.mp h2).1
      rw [List.length_take] at this
      omega
    rw [ht m hlt] at h1
    have h3 : g1[m]? = some c := by rw [List.getElem?_take_of_lt hlt] at h2; exact h2
    have h4 : g[m]? = some c := by rw [← eqG_ok hlo]; exact h2
    have h5 : lowC g.length c = true := by
      rw [← l1]
      exact (S.cells.cel m (F.th[m]'(by omega)) c (List.getElem?_eq_getElem _) h4).low0
    exact CellR.lowN ht hh h5 (s.cells.cel m b c h1 h3)
  · intro i d hi
    obtain ⟨s0, h1, h2⟩ := fa i _ hi
    rcases fix_v h2 with ⟨rfl, rfl⟩ | ⟨rfl, l⟩
    · obtain ⟨v, h3, b, h4, rfl⟩ := s.slots i _ h1
      rw [hta] at h4
      cases h4
      exact ⟨_, h3, a, rfl, .inl hca, hna⟩
    · obtain ⟨v, h3, h4⟩ := s.slots i _ h1
      exact ⟨v, h3, Rep.lowN ht hh l h4⟩
  · intro i ds hi
    obtain ⟨s0, h1, h2⟩ := fa i _ hi
    obtain ⟨rfl, l⟩ := fix_own h2
    obtain ⟨b, vs, h3, h4, h5, h6⟩ := s.owns i ds h1
    exact ⟨b, vs, h3, h4, h5, RepL.lowN ht hh l h6⟩
  · intro i j ds es b ne hi hj
    obtain ⟨s0, h1, h2⟩ := fa i _ hi
    obtain ⟨rfl, _⟩ := fix_own h2
    obtain ⟨s1, h3, h4⟩ := fa j _ hj
    obtain ⟨rfl, _⟩ := fix_own h4
    exact s.apart i j ds es b ne h1 h3
theorem ess_box {body : List Stmt} {m : MS} (h : PSs X body (tMS W E m)) : PSs X body (tMS W E (boxS m)) := weakB h fun D0 σ H ⟨F, e, g, S, p⟩ => by
  refine ⟨F, e, g, S, ?_⟩
  unfold boxS at p
  cases q : m e g with
  | nx e1 g1 =>
    rw [q] at p
    simp only at p
    cases qc : g1[g.length]? with
    | none => rw [qc] at p; exact p.elim
    | some c =>
      rw [qc] at p
      cases c <;> try exact p.elim
      rename_i kvs
      simp only at p
      split at p
      · rename_i hl
        cases qf : fixE g.length kvs e1 with
        | none => rw [qf] at p; exact p.elim
        | some e2 =>
          rw [qf] at p
          intro F2 σ2 H2 x s
          obtain ⟨F3, x3, s3⟩ := St.box S x s qc hl.1 hl.2 qf
          exact p F3 σ2 H2 x3 s3
      · exact p.elim
  | rt _ _ => rw [q] at p; exact p.elim
  | bk _ _ => rw [q] at p; exact p.elim
  | ct _ _ => rw [q] at p; exact p.elim
  | ex _ _ _ => rw [q] at p; exact p.elim
  | bad => rw [q] at p; exact p.elim
end
end Ev

/-! Wp: plain laws of the evaluator's words: what a run gives, told by what is wanted behind it. -/
namespace Ev
open PySem L2
/-- a value comes, and of it P -/
def WR {α : Type} (r : R α) (P : α → List Cell → Prop) : Prop := match r with
  | .ok a g => P a g
  | _ => False
/-- a statement ends: N on, T by a return, B, C by break and continue -/
def WS (r : RS) (N : Env → List Cell → Prop) (T : D → List Cell → Prop) (B C : Env → List Cell → Prop) : Prop := match r with
  | .nx e g => N e g
  | .rt d g => T d g
  | .bk e g => B e g
  | .ct e g => C e g
  | _ => False
theorem WR.ex {α : Type} {r : R α} {P : α → List Cell → Prop} (h : WR r P) : ∃ a g, r = .ok a g ∧ P a g := by
  cases r with
  | ok a g => exact ⟨a, g, rfl, h⟩
  | ex c d g => exact h.elim
  | bad => exact h.elim
theorem WR.of {α : Type} {r : R α} {a : α} {g : List Cell} {P : α → List Cell → Prop} (h : r = .ok a g) (p : P a g) : WR r P := by rw [h]; exact p
theorem WR.mono {α : Type} {r : R α} {P Q : α → List Cell → Prop} (h : WR r P) (k : ∀ a g, P a g → Q a g) : WR r Q := by
  cases r with
  | ok a g => exact k a g h
  | ex c d g => exact h.elim
  | bad => exact h.elim
theorem WR.eqv {r : R D} {v : D} {g0 : List Cell} {Q : D → List Cell → Prop} (h : WR r fun d g => g = g0 ∧ d = v) (k : Q v g0) : WR r Q := h.mono fun d g e => by obtain ⟨e1, e2⟩ := e; subst e1; subst e2; exact k
theorem WR.bind {α β : Type} {r : R α} {f : α → List Cell → R β} {P : β → List Cell → Prop} (h : WR r fun a g => WR (f a g) P) : WR (r.bind f) P := by
  cases r with
  | ok a g => exact h
  | ex c d g => exact h.elim
  | bad => exact h.elim
theorem WS.toS {α : Type} {r : R α} {f : α → List Cell → RS} {N : Env → List Cell → Prop} {T : D → List Cell → Prop} {B C : Env → List Cell → Prop} (h : WR r fun a g => WS (f a g) N T B C) : WS (r.toS f) N T B C := by
  cases r with
  | ok a g => exact h
  | ex c d g => exact h.elim
  | bad => exact h.elim
theorem WS.mono {r : RS} {N N' : Env → List Cell → Prop} {T T' : D → List Cell → Prop} {B B' C C' : Env → List Cell → Prop} (h : WS r N T B C) (hn : ∀ e g, N e g → N' e g) (ht : ∀ d g, T d g → T' d g) (hb : ∀ e g, B e g → B' e g) (hc : ∀ e g, C e g → C' e g) : WS r N' T' B' C' := by
  cases r with
  | nx e g => exact hn _ _ h
  | rt d g => exact ht _ _ h
  | bk e g => exact hb _ _ h
  | ct e g => exact hc _ _ h
  | ex c d g => exact h.elim
  | bad => exact h.elim
theorem WS.eqv {r : RS} {e1 : Env} {g1 : List Cell} {N : Env → List Cell → Prop} {T : D → List Cell → Prop} {B C : Env → List Cell → Prop} (h : WS r (fun e g => g = g1 ∧ e = e1) (fun _ _ => False) (fun _ _ => False) (fun _ _ => False)) (k : N e1 g1) : WS r N T B C :=
  h.mono (fun e g ⟨h1, h2⟩ => by subst h1; subst h2; exact k) (fun _ _ h => h.elim) (fun _ _ h => h.elim) (fun _ _ h => h.elim)
section
variable {e : Env} {g : List Cell} {P : D → List Cell → Prop} {PB : Bool → List Cell → Prop} {PL : List D → List Cell → Prop} {a b c : M D} {m : M (List D)} {t u : M Bool} {f f' : D → D → List Cell → Option D}
/-! ### expressions -/
theorem wp_con {d : D} (h : P d g) : WR (conM d e g) P := h
theorem wp_var {i : Nat} {d : D} (hi : e[i]? = some (.v d)) (h : P d g) : WR (varM i e g) P := by unfold varM; rw [hi]; exact h
theorem wp_seeV {i : Nat} {d : D} (hi : e[i]? = some (.v d)) (h : P d g) : WR (seeM i e g) P := by unfold seeM; rw [hi]; exact h
theorem wp_seeO {i : Nat} {ds : List D} (hi : e[i]? = some (.own ds)) (h : P (.lst ds) g) : WR (seeM i e g) P := by unfold seeM; rw [hi]; exact h
theorem wp_op (h : WR (a e g) fun x g1 => WR (b e g1) fun y g2 => ∃ d, f x y g2 = some d ∧ P d g2) : WR (opM f a b e g) P :=
  WR.bind (h.mono fun x g1 k => WR.bind (k.mono fun y g2 ⟨d, e, p⟩ => by rw [e]; exact p))
theorem wp_opI {C : Int → Int → Bool} {z : Int → Int → D} (h : WR (a e g) fun x g1 => WR (b e g1) fun y g2 => ∃ i j, x = .int i ∧ y = .int j ∧ C i j = true ∧ P (z i j) g2) : WR (opM (onI C z) a b e g) P :=
  wp_op (h.mono fun x g1 k => k.mono fun y g2 ⟨i, j, e1, e2, hc, p⟩ => ⟨z i j, by subst e1; subst e2; unfold onI; simp only; rw [if_pos hc], p⟩)
theorem wp_opI0 {z : Int → Int → D} (h : WR (a e g) fun x g1 => WR (b e g1) fun y g2 => ∃ i j, x = .int i ∧ y = .int j ∧ P (z i j) g2) : WR (opM (onI0 z) a b e g) P :=
  wp_op (h.mono fun x g1 k => k.mono fun y g2 ⟨i, j, e1, e2, p⟩ => ⟨z i j, by subst e1; subst e2; rfl, p⟩)
theorem wp_sub (h : WR (a e g) fun x g1 => WR (b e g1) fun y g2 => ∃ i j, x = .int i ∧ y = .int j ∧ P (.int (i - j)) g2) : WR (opM subD a b e g) P := wp_opI0 h
theorem wp_mod (h : WR (a e g) fun x g1 => WR (b e g1) fun y g2 => ∃ i j, x = .int i ∧ y = .int j ∧ 0 < j ∧ P (.int (i % j)) g2) : WR (opM modD a b e g) P :=
  wp_opI (h.mono fun x g1 k => k.mono fun y g2 ⟨i, j, e1, e2, hc, p⟩ => ⟨i, j, e1, e2, decide_eq_true hc, p⟩)
theorem wp_fdiv (h : WR (a e g) fun x g1 => WR (b e g1) fun y g2 => ∃ i j, x = .int i ∧ y = .int j ∧ (0 < j ∧ j < 340282366920938463463374607431768211456) ∧ P (.int (i / j)) g2) : WR (opM fdivD a b e g) P :=
  wp_opI (h.mono fun x g1 k => k.mono fun y g2 ⟨i, j, e1, e2, hc, p⟩ => ⟨i, j, e1, e2, decide_eq_true hc, p⟩)
theorem wp_pow (h : WR (a e g) fun x g1 => WR (b e g1) fun y g2 => ∃ i j, x = .int i ∧ y = .int j ∧ (0 ≤ j ∧ j ≤ 1000000 ∧ i.natAbs < 18446744073709551616) ∧ P (.int (i ^ j.toNat)) g2) : WR (opM powD a b e g) P :=
  wp_opI (h.mono fun x g1 k => k.mono fun y g2 ⟨i, j, e1, e2, hc, p⟩ => ⟨i, j, e1, e2, decide_eq_true hc, p⟩)
theorem wp_shl (h : WR (a e g) fun x g1 => WR (b e g1) fun y g2 => ∃ i j, x = .int i ∧ y = .int j ∧ (0 ≤ j ∧ j ≤ 1000000 ∧ i.natAbs < 18446744073709551616) ∧ P (.int (i * 2 ^ j.toNat)) g2) : WR (opM shlD a b e g) P :=
  wp_opI (h.mono fun x g1 k => k.mono fun y g2 ⟨i, j, e1, e2, hc, p⟩ => ⟨i, j, e1, e2, decide_eq_true hc, p⟩)
theorem wp_shr (h : WR (a e g) fun x g1 => WR (b e g1) fun y g2 => ∃ i j, x = .int i ∧ y = .int j ∧ 0 ≤ j ∧ P (.int (i / 2 ^ j.toNat)) g2) : WR (opM shrD a b e g) P :=
  wp_opI (h.mono fun x g1 k => k.mono fun y g2 ⟨i, j, e1, e2, hc, p⟩ => ⟨i, j, e1, e2, decide_eq_true hc, p⟩)
theorem wp_and_ (h : WR (a e g) fun x g1 => WR (b e g1) fun y g2 => ∃ i j, x = .int i ∧ y = .int j ∧ P (.int (Builtin.bitAnd i j)) g2) : WR (opM andD a b e g) P := wp_opI0 h
theorem mulD_int {i j : Int} {g : List Cell} (h : (-18446744073709551616 < i ∧ i < 18446744073709551616) ∨ (-18446744073709551616 < j ∧ j < 18446744073709551616)) : mulD (.int i) (.int j) g = some (.int (i * j)) := by
  unfold mulD orF mulI onI
  simp only
  rw [if_pos (decide_eq_true h)]
theorem wp_mul (h : WR (a e g) fun x g1 => WR (b e g1) fun y g2 => ∃ i j, x = .int i ∧ y = .int j ∧ ((-18446744073709551616 < i ∧ i < 18446744073709551616) ∨ (-18446744073709551616 < j ∧ j < 18446744073709551616)) ∧ P (.int (i * j)) g2) : WR (opM mulD a b e g) P :=
  wp_op (h.mono fun x g1 k => k.mono fun y g2 ⟨i, j, e1, e2, hc, p⟩ => ⟨_, by subst e1; subst e2; exact mulD_int hc, p⟩)
theorem wp_neg (h : WR (a e g) fun x g1 => ∃ i, x = .int i ∧ P (.int (-i)) g1) : WR (unM negD a e g) P := WR.bind (h.mono fun x g1 ⟨i, e, p⟩ => by subst e; exact p)
theorem wp_un {z : D → List Cell → Option D} (h : WR (a e g) fun x g1 => ∃ d, z x g1 = some d ∧ P d g1) : WR (unM z a e g) P := WR.bind (h.mono fun x g1 ⟨d, e, p⟩ => by rw [e]; exact p)
theorem wp_nil (h : PL [] g) : WR (nilM e g) PL := h
theorem wp_cons (h : WR (a e g) fun x g1 => WR (m e g1) fun xs g2 => PL (x :: xs) g2) : WR (consM a m e g) PL := WR.bind (h.mono fun x g1 k => WR.bind (k.mono fun _ _ p => p))
theorem wp_tup (h : WR (m e g) fun ds g1 => ds.length ≤ 16777216 ∧ P (.tup ds) g1) : WR (tupM m e g) P := WR.bind (h.mono fun ds g1 ⟨l, p⟩ => by rw [if_pos l]; exact p)
theorem wp_fit (h : WR (m e g) fun ds g1 => ds.length ≤ 16777216 ∧ PL ds g1) : WR (fitM m e g) PL := WR.bind (h.mono fun ds g1 ⟨l, p⟩ => by rw [if_pos l]; exact p)
theorem wp_val (h : WR (m e g) fun ds g1 => P (.lst ds) g1) : WR (valM m e g) P := WR.bind (h.mono fun _ _ p => p)
theorem wp_blt {z : List D → List Cell → Option D} (h : WR (m e g) fun ds g1 => ∃ d, z ds g1 = some d ∧ P d g1) : WR (bltM z m e g) P := WR.bind (h.mono fun x g1 ⟨d, e, p⟩ => by rw [e]; exact p)
theorem wp_call {n : Nat} {z : List D → List Cell → R D} (h : WR (m e g) fun ds g1 => ds.length = n ∧ WR (z ds g1) P) : WR (callM n z m e g) P := WR.bind (h.mono fun ds g1 ⟨l, p⟩ => by rw [if_pos l]; exact p)
theorem wp_sl {x : M D} {lo hi : M (Option Int)} (h : WR (x e g) fun d g1 => WR (lo e g1) fun l g2 => WR (hi e g2) fun k g3 => ∃ r, cutD d l k = some r ∧ P r g3) : WR (slM x lo hi e g) P :=
  WR.bind (h.mono fun d g1 k => WR.bind (k.mono fun l g2 k => WR.bind (k.mono fun r g3 ⟨d, e, p⟩ => by rw [e]; exact p)))
theorem wp_noP {PO : Option Int → List Cell → Prop} (h : PO none g) : WR (noP e g) PO := h
theorem wp_atP {PO : Option Int → List Cell → Prop} (h : WR (a e g) fun d g1 => ∃ i, d = .int i ∧ PO (some i) g1) : WR (atP a e g) PO := WR.bind (h.mono fun d g1 ⟨i, e, p⟩ => by subst e; exact p)
theorem wp_lst (h : WR (m e g) fun ds g1 => (∃ xs, ds = [.lst xs] ∧ PL xs g1) ∨ ∃ xs, ds = [.tup xs] ∧ PL xs g1) : WR (lstM m e g) PL := WR.bind (h.mono fun ds g1 k => by
  rcases k with ⟨xs, rfl, p⟩ | ⟨xs, rfl, p⟩ <;> exact p)
/-! ### tests -/
theorem wp_bool (h : WR (a e g) fun d g1 => ∃ b, d = .bl b ∧ PB b g1) : WR (boolM a e g) PB := WR.bind (h.mono fun d g1 ⟨i, e, p⟩ => by subst e; exact p)
/-- both ways of a test -/
def Br (p : Prop) (PB : Bool → List Cell → Prop) (g : List Cell) : Prop := (p → PB true g) ∧ (¬ p → PB false g)
theorem Br.dec {p : Prop} [Decidable p] (h : Br p PB g) : PB (decide p) g := by
  by_cases q : p
  · rw [decide_eq_true q]; exact h.1 q
  · rw [decide_eq_false q]; exact h.2 q
theorem wp_cmpI {z : Int → Int → Bool} {p : Int → Int → Prop} (hz : ∀ i j, z i j = true ↔ p i j) (h : WR (a e g) fun x g1 => WR (b e g1) fun y g2 => ∃ i j, x = .int i ∧ y = .int j ∧ Br (p i j) PB g2) : WR (boolM (opM (onI0 fun i j => .bl (z i j)) a b) e g) PB :=
  wp_bool (wp_opI0 (h.mono fun x g1 k => k.mono fun y g2 ⟨i, j, e1, e2, h1, h2⟩ => ⟨i, j, e1, e2, _, rfl, by
    cases q : z i j with
    | true => exact h1 ((hz i j).mp q)
    | false => exact h2 fun w => by rw [(hz i j).mpr w] at q; cases q⟩))
theorem wp_lt (h : WR (a e g) fun x g1 => WR (b e g1) fun y g2 => ∃ i j, x = .int i ∧ y = .int j ∧ Br (i < j) PB g2) : WR (boolM (opM ltD a b) e g) PB := wp_cmpI (fun i j => decide_eq_true_iff) h
theorem wp_le (h : WR (a e g) fun x g1 => WR (b e g1) fun y g2 => ∃ i j, x = .int i ∧ y = .int j ∧ Br (i ≤ j) PB g2) : WR (boolM (opM leD a b) e g) PB := wp_cmpI (fun i j => decide_eq_true_iff) h
theorem wp_gt (h : WR (a e g) fun x g1 => WR (b e g1) fun y g2 => ∃ i j, x = .int i ∧ y = .int j ∧ Br (j < i) PB g2) : WR (boolM (opM gtD a b) e g) PB := wp_cmpI (p := fun i j => j < i) (fun i j => decide_eq_true_iff) h
theorem wp_ge (h : WR (a e g) fun x g1 => WR (b e g1) fun y g2 => ∃ i j, x = .int i ∧ y = .int j ∧ Br (j ≤ i) PB g2) : WR (boolM (opM geD a b) e g) PB := wp_cmpI (p := fun i j => j ≤ i) (fun i j => decide_eq_true_iff) h
theorem wp_isN (h : WR (a e g) fun x g1 => WR (b e g1) fun y g2 => y = .non ∧ Br (x = .non) PB g2) : WR (boolM (opM isND a b) e g) PB := wp_bool (wp_op (h.mono fun x g1 k => k.mono fun y g2 ⟨e1, h1, h2⟩ => by
  subst e1
  cases x with
  | non => exact ⟨_, rfl, _, rfl, h1 rfl⟩
  | _ => exact ⟨_, rfl, _, rfl, h2 (fun z => nomatch z)⟩))
theorem wp_notN (h : WR (a e g) fun x g1 => WR (b e g1) fun y g2 => y = .non ∧ Br (x ≠ .non) PB g2) : WR (boolM (opM notND a b) e g) PB := wp_bool (wp_op (h.mono fun x g1 k => k.mono fun y g2 ⟨e1, h1, h2⟩ => by
  subst e1
  cases x with
  | non => exact ⟨_, rfl, _, rfl, h2 fun z => z rfl⟩
  | _ => exact ⟨_, rfl, _, rfl, h1 (fun z => nomatch z)⟩))
/-- == , by its value; of numbers both ways -/
def Eq2 (x y : D) (PB : Bool → List Cell → Prop) (g : List Cell) : Prop := (∃ i j, x = .int i ∧ y = .int j ∧ Br (i = j) PB g) ∨ (∃ b, eqA x y g = some (.bl b) ∧ PB b g)
theorem eq2_int {i j : Int} (h : Br (i = j) PB g) : Eq2 (.int i) (.int j) PB g := .inl ⟨i, j, rfl, rfl, h⟩
theorem wp_eq (h : WR (a e g) fun x g1 => WR (b e g1) fun y g2 => Eq2 x y PB g2) : WR (boolM (opM eqA a b) e g) PB := wp_bool (wp_op (h.mono fun x g1 k => k.mono fun y g2 q => by
  rcases q with ⟨i, j, rfl, rfl, h1, h2⟩ | ⟨b, e, p⟩
  · refine ⟨.bl (i == j), rfl, _, rfl, ?_⟩
    by_cases q : i = j
    · rw [beq_iff_eq.mpr q]; exact h1 q
    · rw [beq_eq_false_iff_ne.mpr q]; exact h2 q
  · exact ⟨_, e, _, rfl, p⟩))
theorem neA_of {x y : D} {g : List Cell} {b : Bool} (h : eqA x y g = some (.bl b)) : neA x y g = some (.bl (!b)) := by
  unfold eqA orF at h
  unfold neA orF
  have hs : ∀ x y : D, (∃ i j, x = .str i ∧ y = .str j) ∨ (eqS x y g = none ∧ neS x y g = none) := fun x y => by
    cases x <;> first | (right; exact ⟨rfl, rfl⟩) | (cases y <;> first | (right; exact ⟨rfl, rfl⟩) | exact .inl ⟨_, _, rfl, rfl⟩)
  rcases hs x y with ⟨i, j, rfl, rfl⟩ | ⟨h1, h2⟩
  · have h' : some (D.bl (i == j)) = some (.bl b) := h
    injection h' with h'
    injection h' with h'
    show some (D.bl (!(i == j))) = _
    rw [h']
  · rw [h1] at h
    rw [h2]
    simp only at h ⊢
    unfold eqP at h
    unfold neP
    split at h
    · rename_i hc
      injection h with h
      injection h with h
      rw [if_pos hc, h]
    · cases h
theorem wp_ne (h : WR (a e g) fun x g1 => WR (b e g1) fun y g2 => Eq2 x y (fun b g => PB (!b) g) g2) : WR (boolM (opM neA a b) e g) PB := wp_bool (wp_op (h.mono fun x g1 k => k.mono fun y g2 q => by
  rcases q with ⟨i, j, rfl, rfl, h1, h2⟩ | ⟨b, e, p⟩
  · refine ⟨.bl (!(i == j)), rfl, _, rfl, ?_⟩
    by_cases q : i = j
    · rw [beq_iff_eq.mpr q]; exact h1 q
    · rw [beq_eq_false_iff_ne.mpr q]; exact h2 q
  · exact ⟨_, neA_of e, _, rfl, p⟩))
theorem wp_andB (h : WR (t e g) fun x g1 => if x = true then WR (u e g1) PB else PB false g1) : WR (andB t u e g) PB := WR.bind (h.mono fun x g1 k => by
  cases x with
  | true => exact k
  | false => exact k)
theorem wp_orB (h : WR (t e g) fun x g1 => if x = true then PB true g1 else WR (u e g1) PB) : WR (orB t u e g) PB := WR.bind (h.mono fun x g1 k => by
  cases x with
  | true => exact k
  | false => exact k)
theorem wp_notB (h : WR (t e g) fun x g1 => PB (!x) g1) : WR (notB t e g) PB := WR.bind (h.mono fun _ _ p => p)
theorem wp_ifV (h : WR (t e g) fun x g1 => if x = true then WR (a e g1) P else WR (b e g1) P) : WR (ifV t a b e g) P := WR.bind (h.mono fun x g1 k => by
  cases x with
  | true => exact k
  | false => exact k)
theorem wp_andV (h : WR (boolM a e g) fun x g1 => if x = true then WR (b e g1) P else P (.bl false) g1) : WR (andV a b e g) P := WR.bind (h.mono fun x g1 k => by
  cases x with
  | true => exact k
  | false => exact k)
theorem wp_orV (h : WR (boolM a e g) fun x g1 => if x = true then P (.bl true) g1 else WR (b e g1) P) : WR (orV a b e g) P := WR.bind (h.mono fun x g1 k => by
  cases x with
  | true => exact k
  | false => exact k)
theorem wp_notV (h : WR (boolM a e g) fun x g1 => P (.bl (!x)) g1) : WR (notV a e g) P := WR.bind (h.mono fun _ _ p => p)
/-- a comparison as a value: as a test, then the bool -/
theorem wp_asB (hb : ∀ d g1, ((a e g) = .ok d g1) → ∃ b, d = .bl b) (h : WR (boolM a e g) fun b g1 => P (.bl b) g1) : WR (a e g) P := by
  cases q : a e g with
  | ok d g1 =>
    obtain ⟨b, rfl⟩ := hb d g1 q
    unfold boolM at h
    rw [q] at h
    exact h
  | ex c d g1 => unfold boolM at h; rw [q] at h; exact h.elim
  | bad => unfold boolM at h; rw [q] at h; exact h.elim
theorem op_bl {f : D → D → List Cell → Option D} (hf : ∀ x y g d, f x y g = some d → ∃ b, d = .bl b) : ∀ d g1, opM f a b e g = .ok d g1 → ∃ c, d = .bl c := fun d g1 h => by
  unfold opM at h
  cases q : a e g with
  | ex _ _ _ => rw [q] at h; cases h
  | bad => rw [q] at h; cases h
  | ok x g2 =>
    rw [q] at h
    simp only [R.bind_ok] at h
    cases q2 : b e g2 with
    | ex _ _ _ => rw [q2] at h; cases h
    | bad => rw [q2] at h; cases h
    | ok y g3 =>
      rw [q2] at h
      simp only [R.bind_ok] at h
      cases q3 : f x y g3 with
      | none => rw [q3] at h; cases h
      | some z =>
        rw [q3] at h
        cases h
        exact hf _ _ _ _ q3
theorem bl_eqA : ∀ x y g d, eqA x y g = some d → ∃ b, d = .bl b := bl_or (fun x y g d h => by cases x <;> cases y <;> first | (cases h; done) | (cases h; exact ⟨_, rfl⟩)) (fun x y g d h => by unfold eqP at h; split at h <;> cases h; exact ⟨_, rfl⟩)
theorem bl_neA : ∀ x y g d, neA x y g = some d → ∃ b, d = .bl b := bl_or (fun x y g d h => by cases x <;> cases y <;> first | (cases h; done) | (cases h; exact ⟨_, rfl⟩)) (fun x y g d h => by unfold neP at h; split at h <;> cases h; exact ⟨_, rfl⟩)
theorem wp_ltV (h : WR (boolM (opM ltD a b) e g) fun b g1 => P (.bl b) g1) : WR (opM ltD a b e g) P := wp_asB (op_bl bl_I) h
theorem wp_leV (h : WR (boolM (opM leD a b) e g) fun b g1 => P (.bl b) g1) : WR (opM leD a b e g) P := wp_asB (op_bl bl_I) h
theorem wp_gtV (h : WR (boolM (opM gtD a b) e g) fun b g1 => P (.bl b) g1) : WR (opM gtD a b e g) P := wp_asB (op_bl bl_I) h
theorem wp_geV (h : WR (boolM (opM geD a b) e g) fun b g1 => P (.bl b) g1) : WR (opM geD a b e g) P := wp_asB (op_bl bl_I) h
theorem wp_eqV (h : WR (boolM (opM eqA a b) e g) fun b g1 => P (.bl b) g1) : WR (opM eqA a b e g) P := wp_asB (op_bl bl_eqA) h
theorem wp_neV (h : WR (boolM (opM neA a b) e g) fun b g1 => P (.bl b) g1) : WR (opM neA a b e g) P := wp_asB (op_bl bl_neA) h
theorem wp_isNV (h : WR (boolM (opM isND a b) e g) fun b g1 => P (.bl b) g1) : WR (opM isND a b e g) P := wp_asB (op_bl fun x y g d h => by cases y <;> cases x <;> cases h <;> exact ⟨_, rfl⟩) h
theorem wp_notNV (h : WR (boolM (opM notND a b) e g) fun b g1 => P (.bl b) g1) : WR (opM notND a b e g) P := wp_asB (op_bl fun x y g d h => by cases y <;> cases x <;> cases h <;> exact ⟨_, rfl⟩) h
/-- a chain of two -/
theorem wp_ch (h : WR (a e g) fun x g1 => WR (b e g1) fun y g2 => ∃ z, f x y g2 = some (.bl z) ∧ if z = true then WR (c e g2) fun w g3 => ∃ d, f' y w g3 = some d ∧ P d g3 else P (.bl false) g2) : WR (chM f f' a b c e g) P :=
  WR.bind (h.mono fun x g1 k => WR.bind (k.mono fun y g2 ⟨z, e1, k⟩ => by
    rw [e1]
    cases z with
    | false => exact k
    | true =>
      have k' : WR (c e g2) _ := k
      refine WR.bind (r := R.of (some (D.bl true)) g2) ?_
      show WR ((c e g2).bind _) _
      exact WR.bind (WR.mono k' fun w g3 ⟨d, e, p⟩ => by rw [e]; exact p)))
/-! ### statements -/
variable {N : Env → List Cell → Prop} {T : D → List Cell → Prop} {B C : Env → List Cell → Prop} {s1 s2 : MS} {tg : D → Env → Option Env}
theorem wp_asgN {i : Nat} (_h : i = i) (h : WR (a e g) fun d g1 => N (e.set i (.v d)) g1) : WS (asgS a (tgN i) e g) N T B C := WS.toS (h.mono fun d g1 p => p)
theorem Br.mk {p : Prop} (h1 : p → PB true g) (h2 : ¬ p → PB false g) : Br p PB g := ⟨h1, h2⟩
theorem ite_t {A B : Prop} (h : A) : if true = true then A else B := h
theorem ite_f {A B : Prop} (h : B) : if false = true then A else B := h
theorem ite_nt {A B : Prop} (h : B) : if (!true) = true then A else B := h
theorem ite_nf {A B : Prop} (h : A) : if (!false) = true then A else B := h
theorem ite_dec {p A B : Prop} [Decidable p] (h1 : p → A) (h2 : ¬ p → B) : if decide p = true then A else B := by
  by_cases q : p
  · rw [decide_eq_true q]; exact h1 q
  · rw [decide_eq_false q]; exact h2 q
theorem Br.yes {p : Prop} {PB : Bool → List Cell → Prop} {g : List Cell} (h : p) (k : PB true g) : Br p PB g := ⟨fun _ => k, fun z => absurd h z⟩
theorem Br.no {p : Prop} {PB : Bool → List Cell → Prop} {g : List Cell} (h : ¬ p) (k : PB false g) : Br p PB g := ⟨fun z => absurd z h, fun _ => k⟩
theorem ite_yes {p A B : Prop} [Decidable p] (h : p) (k : A) : if decide p = true then A else B := by rw [decide_eq_true h]; exact k
theorem ite_no {p A B : Prop} [Decidable p] (h : ¬ p) (k : B) : if decide p = true then A else B := by rw [decide_eq_false h]; exact k
theorem ite_nyes {p A B : Prop} [Decidable p] (h : p) (k : B) : if (!decide p) = true then A else B := by rw [decide_eq_true h]; exact k
theorem ite_nno {p A B : Prop} [Decidable p] (h : ¬ p) (k : A) : if (!decide p) = true then A else B := by rw [decide_eq_false h]; exact k
theorem ite_ndec {p A B : Prop} [Decidable p] (h1 : ¬ p → A) (h2 : p → B) : if (!decide p) = true then A else B := by
  by_cases q : p
  · rw [decide_eq_true q]; exact h2 q
  · rw [decide_eq_false q]; exact h1 q
theorem wp_bits (h : WR (a e g) fun x g1 => ∃ i, x = .int i ∧ P (.int (Builtin.Int.intBits i : Nat)) g1) : WR (unM bitsD a e g) P := WR.bind (h.mono fun x g1 ⟨i, e, p⟩ => by subst e; exact p)
theorem addD_int (i j : Int) (g : List Cell) : addD (.int i) (.int j) g = some (.int (i + j)) := rfl
/-- +, by its values -/
def Mul2 (x y : D) (P : D → List Cell → Prop) (g : List Cell) : Prop := ∃ d, mulD x y g = some d ∧ P d g
theorem mul2_int {i j : Int} (h : ((-18446744073709551616 < i ∧ i < 18446744073709551616) ∨ (-18446744073709551616 < j ∧ j < 18446744073709551616)) ∧ P (.int (i * j)) g) : Mul2 (.int i) (.int j) P g := ⟨_, mulD_int h.1, h.2⟩
theorem wp_mul2 (h : WR (a e g) fun x g1 => WR (b e g1) fun y g2 => Mul2 x y P g2) : WR (opM mulD a b e g) P := wp_op h
theorem mul2_rep {x : D} {k : Nat} (h : k ≤ 1000) (p : P (.lst (List.replicate k x)) g) : Mul2 (.lst [x]) (.int (k : Nat)) P g := by
  refine ⟨_, ?_, p⟩
  show repL (.lst [x]) (.int (k : Nat)) g = _
  unfold repL
  simp only
  rw [if_pos ⟨by omega, by omega, by simp only [List.length_cons, List.length_nil]; omega⟩, Int.toNat_natCast]
  congr 2
  clear h p
  induction k with
  | zero => rfl
  | succ k ih => rw [List.replicate_succ, List.flatten_cons, ih]; rfl
def Add2 (x y : D) (P : D → List Cell → Prop) (g : List Cell) : Prop := ∃ d, addD x y g = some d ∧ P d g
theorem add2_int {i j : Int} (h : P (.int (i + j)) g) : Add2 (.int i) (.int j) P g := ⟨_, rfl, h⟩
theorem add2_tup {xs ys : List D} (hl : xs.length + ys.length ≤ 16777216) (h : P (.tup (xs ++ ys)) g) : Add2 (.tup xs) (.tup ys) P g := ⟨.tup (xs ++ ys), by unfold addD orF onI0 addT; simp only; rw [if_pos hl], h⟩
theorem add2_lst {xs ys : List D} (hl : xs.length + ys.length ≤ 16777216) (h : P (.lst (xs ++ ys)) g) : Add2 (.lst xs) (.lst ys) P g := ⟨.lst (xs ++ ys), by unfold addD orF onI0 addT addL; simp only; rw [if_pos hl], h⟩
theorem wp_add (h : WR (a e g) fun x g1 => WR (b e g1) fun y g2 => Add2 x y P g2) : WR (opM addD a b e g) P :=
  wp_op (h.mono fun x g1 k => k.mono fun y g2 q => q)
theorem wp_skip (h : N e g) : WS (skipS e g) N T B C := h
theorem wp_break (h : B e g) : WS (breakS e g) N T B C := h
theorem wp_cont (h : C e g) : WS (contS e g) N T B C := h
theorem wp_seq (h : WS (s1 e g) (fun e1 g1 => WS (s2 e1 g1) N T B C) T B C) : WS (seqS s1 s2 e g) N T B C := by
  unfold seqS
  cases q : s1 e g <;> rw [q] at h <;> exact h
theorem wp_asg (h : WR (a e g) fun d g1 => ∃ e1, tg d e = some e1 ∧ N e1 g1) : WS (asgS a tg e g) N T B C := WS.toS (h.mono fun d g1 ⟨e1, q, p⟩ => by rw [q]; exact p)
theorem wp_ret (h : WR (a e g) T) : WS (retS a e g) N T B C := WS.toS h
theorem wp_retN (h : T .non g) : WS (retN e g) N T B C := h
theorem wp_retOwn {i : Nat} {ds : List D} (hi : e[i]? = some (.own ds)) (h : T (.lst ds) g) : WS (retOwn i e g) N T B C := by unfold retOwn; rw [hi]; exact h
theorem wp_retOwnV {i : Nat} {d : D} (hi : e[i]? = some (.v d)) (h : T d g) : WS (retOwn i e g) N T B C := by unfold retOwn; rw [hi]; exact h
theorem wp_retCell (h : WR (m e g) fun ds g1 => T (.g g1.length) (g1 ++ [.lst ds])) : WS (retCell m e g) N T B C := WS.toS h
theorem wp_ifS (h : WR (t e g) fun x g1 => if x = true then WS (s1 e g1) N T B C else WS (s2 e g1) N T B C) : WS (ifS t s1 s2 e g) N T B C := WS.toS (h.mono fun x g1 k => by
  cases x with
  | true => exact k
  | false => exact k)
theorem wp_expr (h : WR (a e g) fun _ g1 => N e g1) : WS (exprS a e g) N T B C := WS.toS h
theorem wp_own {i : Nat} (h : WR (m e g) fun ds g1 => N (e.set i (.own ds)) g1) : WS (ownS m i e g) N T B C := WS.toS h
theorem wp_frz {i : Nat} {ds : List D} (hi : e[i]? = some (.own ds)) (h : WS (s1 (e.set i (.v (.lst ds))) g) N T B C) : WS (frzS i s1 e g) N T B C := by unfold frzS frzE; rw [hi]; exact h
theorem wp_frzV {i : Nat} {d : D} (hi : e[i]? = some (.v d)) (h : WS (s1 e g) N T B C) : WS (frzS i s1 e g) N T B C := by unfold frzS frzE; rw [hi]; exact h
theorem wp_par {i j : Nat} (h : WR (a e g) fun x g1 => WR (b e g1) fun y g2 => N ((e.set i (.v x)).set j (.v y)) g2) : WS (parS i j a b e g) N T B C := WS.toS (h.mono fun x g1 k => WS.toS k)
theorem wp_parF {i j : Nat} (h : WR (m e g) fun x g1 => WR (b e g1) fun y g2 => N ((e.set i (.own x)).set j (.v y)) g2) : WS (parFS i j m b e g) N T B C := WS.toS (h.mono fun x g1 k => WS.toS k)
theorem wp_parG {i j : Nat} (h : WR (a e g) fun x g1 => WR (m e g1) fun y g2 => N ((e.set i (.v x)).set j (.own y)) g2) : WS (parSF i j a m e g) N T B C := WS.toS (h.mono fun x g1 k => WS.toS k)
theorem wp_append {i : Nat} {ds : List D} (hi : e[i]? = some (.own ds)) (h : WR (a e g) fun d g1 => ds.length < 16777216 ∧ N (e.set i (.own (ds ++ [d]))) g1) : WS (appendS i a e g) N T B C := by
  unfold appendS
  rw [hi]
  exact WS.toS (h.mono fun d g1 ⟨l, p⟩ => by rw [if_pos l]; exact p)
theorem wp_pop {i : Nat} {ds : List D} {d : D} (hi : e[i]? = some (.own ds)) (hd : ds[ds.length - 1]? = some d) (h : N (e.set i (.own ds.dropLast)) g) : WS (popS i e g) N T B C := by
  unfold popS
  rw [hi]
  simp only [hd]
  exact h
theorem wp_setC {i n : Nat} (hi : e[i]? = some (.v (.g n))) (h : WR (a e g) fun d g1 => WR (b e g1) fun k g2 => ∃ kk ds j, k = .int kk ∧ g2[n]? = some (.lst ds) ∧ ixN ds.length kk = some j ∧ N e (g2.set n (.lst (ds.set j d)))) : WS (setS i b a e g) N T B C := by
  unfold setS
  rw [hi]
  refine WS.toS (h.mono fun d g1 k => WS.toS (k.mono fun kd g2 ⟨kk, ds, j, e1, e2, e3, p⟩ => ?_))
  subst e1
  simp only [e2, e3]
  exact p
theorem wp_setO {i : Nat} {ds : List D} (hi : e[i]? = some (.own ds)) (h : WR (a e g) fun d g1 => WR (b e g1) fun k g2 => ∃ kk j, k = .int kk ∧ ixN ds.length kk = some j ∧ N (e.set i (.own (ds.set j d))) g2) : WS (setS i b a e g) N T B C := by
  unfold setS
  rw [hi]
  refine WS.toS (h.mono fun d g1 k => WS.toS (k.mono fun kd g2 ⟨kk, j, e1, e3, p⟩ => ?_))
  subst e1
  simp only [e3]
  exact p
theorem wp_aug {i : Nat} {d0 : D} (hi : e[i]? = some (.v d0)) (h : WR (a e g) fun d g1 => ∃ z, f d0 d g1 = some z ∧ N (e.set i (.v z)) g1) : WS (augS f i a e g) N T B C := by
  unfold augS
  rw [hi]
  exact WS.toS (h.mono fun d g1 ⟨z, q, p⟩ => by simp only [q]; exact p)
theorem wp_fn {n k : Nat} {body : MS} {ds : List D} (hl : ds.length = n) (h : WS (body (ds.map .v ++ List.replicate (k - n) .no) g) (fun _ g1 => P .non g1) P (fun _ _ => False) fun _ _ => False) : WR (fnM n k body ds g) P := by
  unfold fnM
  rw [if_pos hl]
  cases q : body (ds.map .v ++ List.replicate (k - n) .no) g <;> rw [q] at h <;> first | exact h | exact h.elim
theorem cset_get {n : Nat} {c d : Cell} (h : g[n]? = some c) : (g.set n d)[n]? = some d := by
  rw [List.getElem?_set_self]
  exact (List.getElem?_eq_some_iff.mp h).1
theorem ixG {n : Nat} {ds : List D} {i : Int} {d : D} (h : g[n]? = some (.lst ds)) (k : atI ds i = some d) : ixD (.g n) (.int i) g = some d := by
  unfold ixD
  simp only [h]
  exact k
theorem lenG {n : Nat} {ds : List D} (h : g[n]? = some (.lst ds)) : lenF [.g n] g = some (.int ds.length) := by
  unfold lenF
  simp only [h]
theorem atI_nat {α : Type} {ds : List α} {i : Int} {d : α} (h0 : 0 ≤ i) (h : ds[i.toNat]? = some d) : atI ds i = some d := by
  have hl : i.toNat < ds.length := (List.getElem?_eq_some_iff.mp h).1
  unfold atI ixN
  rw [if_pos h0, if_pos (by omega)]
  exact h
theorem atI_mem {α : Type} {ds : List α} {i : Int} (h0 : 0 ≤ i) (h : i < ds.length) : ∃ d, d ∈ ds ∧ atI ds i = some d := by
  have hl : i.toNat < ds.length := by omega
  exact ⟨ds[i.toNat], List.getElem_mem hl, atI_nat h0 (List.getElem?_eq_getElem hl)⟩
/-! ### loops -/
theorem wp_forS (h : WR (m e g) fun ds g1 => WS (forL tg s1 ds e g1) N T B C) : WS (forS m tg s1 e g) N T B C := WS.toS h
theorem wp_forL (Q : Nat → Env → List Cell → Prop) {ds : List D} (q : Q 0 e g) (h : ∀ i d e g, ds[i]? = some d → Q i e g → ∃ e1, tg d e = some e1 ∧ WS (s1 e1 g) (Q (i + 1)) T N (Q (i + 1))) (k : ∀ e g, Q ds.length e g → N e g) : WS (forL tg s1 ds e g) N T B C := by
  have main : ∀ (xs : List D) (n : Nat) (e : Env) (g : List Cell), n + xs.length = ds.length → (∀ i d, xs[i]? = some d → ds[n + i]? = some d) → Q n e g → WS (forL tg s1 xs e g) N T B C := by
    intro xs
    induction xs with
    | nil =>
      intro n e g hl _ q
      have : n = ds.length := by simpa using hl
      subst this
      exact k e g q
    | cons d xs ih =>
      intro n e g hl hd q
      obtain ⟨e1, h1, h2⟩ := h n d e g (by simpa using hd 0 d rfl) q
      have next : ∀ e2 g2, Q (n + 1) e2 g2 → WS (forL tg s1 xs e2 g2) N T B C := fun e2 g2 q2 =>
        ih (n + 1) e2 g2 (by simp only [List.length_cons] at hl; omega) (fun i x hx => by rw [show n + 1 + i = n + (i + 1) by omega]; exact hd (i + 1) x (by simpa using hx)) q2
      unfold forL
      rw [h1]
      cases z : s1 e1 g <;> simp only [z] at h2 ⊢ <;> first | exact next _ _ h2 | exact h2
  exact main ds 0 e g (by simp) (fun i d h => by rw [Nat.zero_add]; exact h) q
theorem wp_wh (Q : Env → List Cell → Prop) (μ : Env → List Cell → Nat) {n : Nat} (q : Q e g) (hn : μ e g < n)
    (h : ∀ e g, Q e g → WR (t e g) fun b g1 => if b = true then WS (s1 e g1) (fun e2 g2 => Q e2 g2 ∧ μ e2 g2 < μ e g) T N (fun e2 g2 => Q e2 g2 ∧ μ e2 g2 < μ e g) else N e g1) : WS (whL t s1 n e g) N T B C := by
  induction n generalizing e g with
  | zero => exact absurd hn (Nat.not_lt_zero _)
  | succ n ih =>
    refine WS.toS ((h e g q).mono fun b g1 k => ?_)
    cases b with
    | false => exact k
    | true =>
      have next : ∀ e2 g2, (Q e2 g2 ∧ μ e2 g2 < μ e g) → WS (whL t s1 n e2 g2) N T B C := fun e2 g2 z => ih z.1 (by omega)
      have k' : WS (s1 e g1) (fun e2 g2 => Q e2 g2 ∧ μ e2 g2 < μ e g) T N (fun e2 g2 => Q e2 g2 ∧ μ e2 g2 < μ e g) := k
      cases z : s1 e g1 <;> simp only [z, if_true] at k' ⊢ <;> first | exact next _ _ k' | exact k'
theorem wp_whN (Q : Nat → Env → List Cell → Prop) {n k : Nat} (hn : k < n) (q : Q k e g)
    (h : ∀ k e g, Q k e g → WR (t e g) fun b g1 => if b = true then WS (s1 e g1) (fun e2 g2 => ∃ j, j < k ∧ Q j e2 g2) T N (fun e2 g2 => ∃ j, j < k ∧ Q j e2 g2) else N e g1) : WS (whL t s1 n e g) N T B C := by
  induction n generalizing e g k with
  | zero => exact absurd hn (Nat.not_lt_zero _)
  | succ n ih =>
    refine WS.toS ((h k e g q).mono fun b g1 z => ?_)
    cases b with
    | false => exact z
    | true =>
      have next : ∀ e2 g2, (∃ j, j < k ∧ Q j e2 g2) → WS (whL t s1 n e2 g2) N T B C := fun e2 g2 ⟨j, hj, z⟩ => ih (by omega) z
      have k' : WS (s1 e g1) (fun e2 g2 => ∃ j, j < k ∧ Q j e2 g2) T N (fun e2 g2 => ∃ j, j < k ∧ Q j e2 g2) := z
      cases z : s1 e g1 <;> simp only [z, if_true] at k' ⊢ <;> first | exact next _ _ k' | exact k'
theorem wp_lc {it : M (List D)} {own : List Nat} (h : WR (it e g) fun ds g1 => ds.length ≤ 16777216 ∧ WR (lcL tg t a (wipeE e own) ds g1) PL) : WR (lcM it tg t a own e g) PL := WR.bind (h.mono fun ds g1 ⟨l, p⟩ => by rw [if_pos l]; exact p)
theorem noex_wp {α : Type} {r : R α} {P : α → List Cell → Prop} (h : WR r P) : WR r.noex P := by
  cases r with
  | ok a g => exact h
  | ex c d g => exact h.elim
  | bad => exact h.elim
/-- Q by the number of items gone and what the list holds so far -/
theorem wp_lcL (Q : Nat → List D → List Cell → Prop) {ds : List D} (q : Q 0 [] g)
    (h : ∀ i d acc g, ds[i]? = some d → Q i acc g → ∃ e1, tg d e = some e1 ∧ WR (t e1 g) fun b g1 => if b = true then WR (a e1 g1) fun y g2 => Q (i + 1) (acc ++ [y]) g2 else Q (i + 1) acc g1) (k : ∀ r g, Q ds.length r g → PL r g) : WR (lcL tg t a e ds g) PL := by
  have main : ∀ (xs : List D) (n : Nat) (acc : List D) (g : List Cell), n + xs.length = ds.length → (∀ i d, xs[i]? = some d → ds[n + i]? = some d) → Q n acc g → WR (lcL tg t a e xs g) fun r g => PL (acc ++ r) g := by
    intro xs
    induction xs with
    | nil =>
      intro n acc g hl _ q
      have : n = ds.length := by simpa using hl
      subst this
      show PL (acc ++ []) g
      rw [List.append_nil]
      exact k acc g q
    | cons d xs ih =>
      intro n acc g hl hd q
      obtain ⟨e1, h1, h2⟩ := h n d acc g (by simpa using hd 0 d rfl) q
      have next : ∀ acc g2, Q (n + 1) acc g2 → WR (lcL tg t a e xs g2) fun r g => PL (acc ++ r) g := fun acc g2 q2 =>
        ih (n + 1) acc g2 (by simp only [List.length_cons] at hl; omega) (fun i x hx => by rw [show n + 1 + i = n + (i + 1) by omega]; exact hd (i + 1) x (by simpa using hx)) q2
      unfold lcL
      rw [h1]
      refine WR.bind ((noex_wp h2).mono fun b g1 z => ?_)
      cases b with
      | false => exact next _ _ z
      | true =>
        rw [if_pos rfl]
        refine WR.bind ((noex_wp z).mono fun y g2 z => WR.bind ((next _ _ z).mono fun r g3 p => ?_))
        rw [List.append_assoc] at p
        exact p
  have := main ds 0 [] g (by simp) (fun i d h => by rw [Nat.zero_add]; exact h) q
  exact this.mono fun r g p => by rw [List.nil_append] at p; exact p
theorem wp_yesT (h : PB true g) : WR (yesB e g) PB := h
/-- every element is True -/
theorem wp_lcT (I : List Cell → Prop) {ds : List D} (q : I g)
    (h : ∀ (i : Nat) (d : D) (g : List Cell), ds[i]? = some d → I g → ∃ e1, tg d e = some e1 ∧ WR (a e1 g) fun y g2 => y = .bl true ∧ I g2) (k : ∀ g, I g → PL (List.replicate ds.length (.bl true)) g) : WR (lcL tg yesB a e ds g) PL :=
  wp_lcL (fun n acc g => acc = List.replicate n (.bl true) ∧ I g) ⟨rfl, q⟩ (fun i d acc g hd z => by
    obtain ⟨e1, q⟩ := z
    obtain ⟨e2, h1, h2⟩ := h i d g hd q
    refine ⟨e2, h1, wp_yesT ?_⟩
    rw [if_pos rfl]
    refine h2.mono fun y g2 ⟨y1, i2⟩ => ⟨?_, i2⟩
    rw [e1, y1, List.replicate_succ']) (fun r g ⟨e1, q⟩ => by rw [e1]; exact k g q)
theorem wp_yes (h : PB true g) : WR (yesB e g) PB := h
theorem wp_rng1 (h : WR (m e g) fun ds g1 => ∃ n, ds = [.int n] ∧ (-4611686018427387904 ≤ n ∧ n < 4611686018427387904) ∧ PL (rngL 0 n.toNat) g1) : WR (rngIt m e g) PL := WR.bind (h.mono fun ds g1 ⟨n, e1, c, p⟩ => by
  subst e1
  simp only
  rw [if_pos c]
  exact p)
theorem wp_rng2 (h : WR (m e g) fun ds g1 => ∃ i j, ds = [.int i, .int j] ∧ ((-4611686018427387904 ≤ i ∧ i < 4611686018427387904) ∧ -4611686018427387904 ≤ j ∧ j < 4611686018427387904) ∧ PL (rngL i (j - i).toNat) g1) : WR (rng2It m e g) PL := WR.bind (h.mono fun ds g1 ⟨i, j, e1, c, p⟩ => by
  subst e1
  simp only
  rw [if_pos c]
  exact p)
theorem wp_seqIt (h : WR (a e g) fun d g1 => (∃ xs, d = .lst xs ∧ PL xs g1) ∨ ∃ xs, d = .tup xs ∧ PL xs g1) : WR (seqIt a e g) PL := WR.bind (h.mono fun d g1 k => by
  rcases k with ⟨xs, rfl, p⟩ | ⟨xs, rfl, p⟩ <;> exact p)
theorem wp_zipIt (h : WR (m e g) fun ds g1 => (∃ xs ys, ds = [.lst xs, .lst ys] ∧ PL (zipL xs ys) g1) ∨ ∃ xs ys, ds = [.tup xs, .tup ys] ∧ PL (zipL xs ys) g1) : WR (zipIt m e g) PL := WR.bind (h.mono fun d g1 k => by
  rcases k with ⟨xs, ys, rfl, p⟩ | ⟨xs, ys, rfl, p⟩ <;> exact p)
end
@[simp] theorem rngL_length (lo : Int) (n : Nat) : (rngL lo n).length = n := by simp [rngL]
theorem rngL_get {lo : Int} {n i : Nat} {d : D} (h : (rngL lo n)[i]? = some d) : i < n ∧ d = .int (lo + i) := by
  unfold rngL at h
  rw [List.getElem?_map] at h
  by_cases hi : i < n
  · rw [List.getElem?_range hi] at h
    cases h
    exact ⟨hi, rfl⟩
  · rw [List.getElem?_eq_none (by simpa using hi)] at h
    cases h
theorem all_rep (n : Nat) (g : List Cell) : allF [.lst (List.replicate n (.bl true))] g = some (.bl true) := by
  have e : List.replicate n (D.bl true) = (List.replicate n true).map .bl := by rw [List.map_replicate]
  rw [e]
  show Option.map _ (blsOf _) = _
  rw [blsOf_map]
  simp
/-- repr of a number -/
theorem rpr_int (i : Int) (g : List Cell) (h : i.natAbs < 2 ^ 1900) : rprF [.int i] g = some (.str (toPd (.int i)).shown) := by
  have h2 : i.natAbs.log2 < 1901 := by
    by_cases q : i.natAbs = 0
    · rw [q]; decide
    · have := (Nat.log2_lt q).mpr h
      omega
  unfold rprF
  simp only
  rw [if_pos ⟨rfl, by simp only [shw, decide_eq_true_eq]; omega, by simp only [siz]; omega⟩]
theorem rpr_non (g : List Cell) : rprF [.non] g = some (.str (toPd .non).shown) := rfl
theorem rpr_bl (b : Bool) (g : List Cell) : rprF [.bl b] g = some (.str (toPd (.bl b)).shown) := rfl
theorem eqA_strs (i : Str) (g : List Cell) : eqA (.str i) (.str i) g = some (.bl true) := by
  show some (D.bl (i == i)) = _
  rw [beq_self_eq_true]
theorem eq2_str {i : Str} {PB : Bool → List Cell → Prop} {g : List Cell} (h : PB true g) : Eq2 (.str i) (.str i) PB g := .inr ⟨true, eqA_strs i g, h⟩
section
variable {e : Env} {g : List Cell} {P : D → List Cell → Prop} {PB : Bool → List Cell → Prop} {PL : List D → List Cell → Prop} {a b c : M D} {m : M (List D)} {t : M Bool}
/-! ### classes, objects -/
theorem wp_fld {n : Nat} (h : WR (a e g) fun x g1 => ∃ k d, x = .ob k d ∧ k < n ∧ P d g1) : WR (unM (fldD n) a e g) P := wp_un (h.mono fun x g1 ⟨k, d, e1, hk, p⟩ => ⟨d, by subst e1; unfold fldD; simp only; rw [if_pos hk], p⟩)
theorem wp_isiB {T : String} (h : WR (a e g) fun x g1 => ∃ t b, tyD x = some t ∧ kitB t T = some b ∧ PB b g1) : WR (boolM (unM (isiD T) a) e g) PB := wp_bool (wp_un (h.mono fun x g1 ⟨t, b, e1, e2, p⟩ => ⟨.bl b, by unfold isiD; rw [e1]; simp only [e2]; rfl, b, rfl, p⟩))
theorem wp_isi {T : String} (h : WR (a e g) fun x g1 => ∃ t b, tyD x = some t ∧ kitB t T = some b ∧ P (.bl b) g1) : WR (unM (isiD T) a e g) P := wp_un (h.mono fun x g1 ⟨t, b, e1, e2, p⟩ => ⟨.bl b, by unfold isiD; rw [e1]; simp only [e2]; rfl, p⟩)
theorem wp_onCl {α : Type} {k : Nat} {m2 : M α} {PA : α → List Cell → Prop} (h : WR (a e g) fun x g1 => x = .cl k ∧ WR (m2 e g1) PA) : WR (onCl k a m2 e g) PA := WR.bind (h.mono fun x g1 ⟨e1, p⟩ => by subst e1; simp only [↓reduceIte]; exact p)
theorem wp_sm {k n : Nat} {f : List D → List Cell → R D} (h : WR (a e g) fun x g1 => x = .cl k ∧ WR (m e g1) fun ds g2 => ds.length = n ∧ WR (f ds g2) P) : WR (smM k n f a m e g) P := wp_onCl (h.mono fun x g1 ⟨e1, p⟩ => ⟨e1, wp_call p⟩)
theorem wp_cm {k n : Nat} {f : List D → List Cell → R D} (h : WR (a e g) fun x g1 => x = .cl k ∧ WR (m e g1) fun ds g2 => ds.length + 1 = n ∧ WR (f (.cl k :: ds) g2) P) : WR (cmM k n f a m e g) P := wp_onCl (h.mono fun x g1 ⟨e1, p⟩ => ⟨e1, WR.bind (p.mono fun ds g2 ⟨l, q⟩ => by rw [if_pos l]; exact q)⟩)
theorem wp_mk {k : Nat} {f : List D → List Cell → R D} (h : WR (m e g) fun ds g1 => WR (f ds g1) fun d g2 => P (.ob k d) g2) : WR (mkM k f m e g) P := WR.bind (h.mono fun ds g1 p => WR.bind (p.mono fun d g2 q => q))
theorem wp_mkStar {k : Nat} {f : List D → List Cell → R D} (h : WR (a e g) fun x g1 => x = .cl k ∧ WR (b e g1) fun y g2 => ∃ ds, y = .tup ds ∧ WR (f ds g2) fun d g3 => P (.ob k d) g3) : WR (mkStarM k f a b e g) P := wp_onCl (h.mono fun x g1 ⟨e1, p⟩ => ⟨e1, WR.bind (p.mono fun y g2 ⟨ds, e2, q⟩ => by subst e2; exact WR.bind (q.mono fun d g3 z => z))⟩)
theorem wp_inStar {f : List D → List Cell → R D} {ds : List D} (hl : ds.length ≤ 16777216) (h : WR (f [.tup ds] g) P) : WR (inStar f ds g) P := by unfold inStar; rw [if_pos hl]; exact h
theorem wp_in {N : Nat} {r : MS} {ds : List D} (h : WR (t (inE N ds) g) fun b g1 => b = false ∧ WR (a (inE N ds) g1) P) : WR (inM N t r a ds g) P := by
  unfold inM
  exact WR.bind (h.mono fun b g1 ⟨e1, p⟩ => by subst e1; exact p)
theorem wp_enum (h : WR (m e g) fun ds g1 => (∃ xs, ds = [.tup xs] ∧ PL (enumL xs) g1) ∨ ∃ xs, ds = [.lst xs] ∧ PL (enumL xs) g1) : WR (enumIt m e g) PL := WR.bind (h.mono fun d g1 k => by
  rcases k with ⟨xs, rfl, p⟩ | ⟨xs, rfl, p⟩ <;> exact p)
end
theorem kit_NoneType_int : kitB "NoneType" "int" = some false := by decide +kernel
theorem kit_NoneType_bool : kitB "NoneType" "bool" = some false := by decide +kernel
theorem kit_NoneType_tuple : kitB "NoneType" "tuple" = some false := by decide +kernel
theorem kit_NoneType_str : kitB "NoneType" "str" = some false := by decide +kernel
theorem kit_NoneType_list : kitB "NoneType" "list" = some false := by decide +kernel
theorem kit_bool_int : kitB "bool" "int" = some true := by decide +kernel
theorem kit_bool_bool : kitB "bool" "bool" = some true := by decide +kernel
theorem kit_bool_tuple : kitB "bool" "tuple" = some false := by decide +kernel
theorem kit_bool_str : kitB "bool" "str" = some false := by decide +kernel
theorem kit_bool_list : kitB "bool" "list" = some false := by decide +kernel
theorem kit_int_int : kitB "int" "int" = some true := by decide +kernel
theorem kit_int_bool : kitB "int" "bool" = some false := by decide +kernel
theorem kit_int_tuple : kitB "int" "tuple" = some false := by decide +kernel
theorem kit_int_str : kitB "int" "str" = some false := by decide +kernel
theorem kit_int_list : kitB "int" "list" = some false := by decide +kernel
theorem kit_str_int : kitB "str" "int" = some false := by decide +kernel
theorem kit_str_bool : kitB "str" "bool" = some false := by decide +kernel
theorem kit_str_tuple : kitB "str" "tuple" = some false := by decide +kernel
theorem kit_str_str : kitB "str" "str" = some true := by decide +kernel
theorem kit_str_list : kitB "str" "list" = some false := by decide +kernel
theorem kit_tuple_int : kitB "tuple" "int" = some false := by decide +kernel
theorem kit_tuple_bool : kitB "tuple" "bool" = some false := by decide +kernel
theorem kit_tuple_tuple : kitB "tuple" "tuple" = some true := by decide +kernel
theorem kit_tuple_str : kitB "tuple" "str" = some false := by decide +kernel
theorem kit_tuple_list : kitB "tuple" "list" = some false := by decide +kernel
theorem kit_list_int : kitB "list" "int" = some false := by decide +kernel
theorem kit_list_bool : kitB "list" "bool" = some false := by decide +kernel
theorem kit_list_tuple : kitB "list" "tuple" = some false := by decide +kernel
theorem kit_list_str : kitB "list" "str" = some false := by decide +kernel
theorem kit_list_list : kitB "list" "list" = some true := by decide +kernel
section
variable {e : Env} {g : List Cell} {P : D → List Cell → Prop} {PB : Bool → List Cell → Prop} {a b c : M D}
theorem wp_chLL (h : WR (a e g) fun x g1 => WR (b e g1) fun y g2 => ∃ i j, x = .int i ∧ y = .int j ∧ Br (i ≤ j) (fun z g3 => if z = true then WR (c e g3) fun w g4 => ∃ k, w = .int k ∧ Br (j ≤ k) PB g4 else PB false g3) g2) : WR (boolM (chM leD leD a b c) e g) PB :=
  wp_bool (wp_ch (h.mono fun x g1 q => q.mono fun y g2 ⟨i, j, e1, e2, h1, h2⟩ => ⟨decide (i ≤ j), by subst e1; subst e2; rfl, by
    by_cases hij : i ≤ j
    · rw [decide_eq_true hij, if_pos rfl]
      have h1 : WR (c e g2) _ := h1 hij
      exact h1.mono fun w g3 ⟨k, e3, q⟩ => ⟨.bl (decide (j ≤ k)), by subst e3; subst e2; rfl, _, rfl, q.dec⟩
    · rw [decide_eq_false hij, if_neg (by decide)]
      have h2 : PB false g2 := h2 hij
      exact ⟨_, rfl, h2⟩⟩))
end

theorem wp_par3 {e : Env} {g : List Cell} {N : Env → List Cell → Prop} {T : D → List Cell → Prop} {B C : Env → List Cell → Prop} {a b c : M D} {i j l : Nat} (h : WR (a e g) fun x g1 => WR (b e g1) fun y g2 => WR (c e g2) fun z g3 => N (((e.set i (.v x)).set j (.v y)).set l (.v z)) g3) : WS (par3S i j l a b c e g) N T B C := WS.toS (h.mono fun x g1 k => WS.toS (k.mono fun y g2 k => WS.toS (k.mono fun _ _ p => p)))
/-! ### the rules' own operators -/
section
variable {e : Env} {g : List Cell} {P : D → List Cell → Prop} {PB : Bool → List Cell → Prop} {a b : M D} {m : M (List D)} {f : List D → List Cell → R D} {c c' : Nat} {d d' : D} {neg : Bool}
theorem wp_two {q : D → D → List Cell → R D} (h : WR (a e g) fun x g1 => WR (b e g1) fun y g2 => WR (q x y g2) P) : WR (two q a b e g) P := WR.bind (h.mono fun _ _ k => WR.bind k)
theorem isRu_ob (h : c < 2) : isRu (.ob c d) = true := decide_eq_true h
theorem wp_kRu (h1 : c < 2) (h2 : c' < 2) (h : WR (f [.ob c d, .ob c' d'] g) P) : WR (kRu f (.ob c d) (.ob c' d') g) P := by
  unfold kRu
  rw [if_pos ⟨isRu_ob h1, isRu_ob h2⟩]
  exact h
theorem wp_kRuI {i : Int} (h1 : c < 2) (h : WR (f [.ob c d, .int i] g) P) : WR (kRuI f (.ob c d) (.int i) g) P := by
  unfold kRuI
  rw [if_pos ⟨isRu_ob h1, rfl⟩]
  exact h
theorem wp_kRuX {x : D} (h1 : c < 2) (h : WR (f [.ob c d, x] g) P) : WR (kRuX f (.ob c d) x g) P := by
  unfold kRuX
  rw [if_pos (isRu_ob h1)]
  exact h
theorem wp_asBl {r : R D} (h : WR r fun x g1 => ∃ b, x = .bl b ∧ P (.bl (if neg then !b else b)) g1) : WR (asBl neg r) P := WR.bind (h.mono fun x g1 ⟨b, e, p⟩ => by subst e; exact p)
theorem wp_kRuIn {x : D} (h1 : c < 2) (h : WR (f [.ob c d, x] g) fun x g1 => ∃ b, x = .bl b ∧ P (.bl (if neg then !b else b)) g1) : WR (kRuIn neg f x (.ob c d) g) P := by
  unfold kRuIn
  rw [if_pos (isRu_ob h1)]
  exact wp_asBl h
theorem wp_kRuE (h1 : c < 2) (h2 : c' < 2) (h : (c = 0 ∧ c' = 1 → WR (f [.ob c' d', .ob c d] g) fun x g1 => ∃ b, x = .bl b ∧ P (.bl (if neg then !b else b)) g1) ∧ (¬ (c = 0 ∧ c' = 1) → WR (f [.ob c d, .ob c' d'] g) fun x g1 => ∃ b, x = .bl b ∧ P (.bl (if neg then !b else b)) g1)) : WR (kRuE neg f (.ob c d) (.ob c' d') g) P := by
  unfold kRuE
  rw [if_pos ⟨isRu_ob h1, isRu_ob h2⟩]
  refine wp_asBl ?_
  by_cases q : c = 0 ∧ c' = 1
  · rw [if_pos (show cOf (.ob c d) = 0 ∧ cOf (.ob c' d') = 1 from q)]
    exact h.1 q
  · rw [if_neg (show ¬ (cOf (.ob c d) = 0 ∧ cOf (.ob c' d') = 1) from q)]
    exact h.2 q
theorem wp_ruLen (h : WR (m e g) fun ds g1 => ∃ c d, ds = [.ob c d] ∧ c < 2 ∧ WR (f [.ob c d] g1) fun x g2 => ∃ n, x = .int n ∧ (0 ≤ n ∧ n < 9223372036854775808) ∧ P (.int n) g2) : WR (ruLen f m e g) P := WR.bind (h.mono fun ds g1 ⟨c, d, e1, hc, k⟩ => by
  subst e1
  simp only
  rw [if_pos (isRu_ob hc)]
  exact WR.bind (k.mono fun x g2 ⟨n, e2, hn, p⟩ => by subst e2; simp only; rw [if_pos hn]; exact p))
theorem wp_ruCall {n : Nat} (h : WR (a e g) fun x g1 => isRu x = true ∧ WR (m e g1) fun ds g2 => (x :: ds).length = n ∧ WR (f (x :: ds) g2) P) : WR (ruCall n f a m e g) P := WR.bind (h.mono fun x g1 ⟨hx, k⟩ => by
  rw [if_pos hx]
  exact WR.bind (k.mono fun ds g2 ⟨hl, p⟩ => by rw [if_pos hl]; exact p))
theorem wp_isiRu {n : Nat} (h : WR (a e g) fun x g1 => ∃ r, isiRu n x g1 = some r ∧ P r g1) : WR (unM (isiRu n) a e g) P := wp_un h
theorem isiRu_ob {n : Nat} (hc : c < 2) : isiRu n (.ob c d) g = some (.bl (decide (n ≤ c))) := by
  show (if c < 2 then some (D.bl (decide (n ≤ c))) else none) = _
  rw [if_pos hc]
theorem wp_super {N : Nat} {fi : List D → List Cell → R D} {me : M D} (h1 : WR (fi [.int 0] g) fun _ g1 => WR (me (inE N [d]) g1) P) : WR (superM N fi me [d] g) P := by
  unfold superM
  refine WR.bind (noex_wp (h1.mono fun _ g1 k => noex_wp k))
end
theorem wp_par3F {e : Env} {g : List Cell} {N : Env → List Cell → Prop} {T : D → List Cell → Prop} {B C : Env → List Cell → Prop} {m : M (List D)} {b c : M D} {i j l : Nat} (h : WR (m e g) fun x g1 => WR (b e g1) fun y g2 => WR (c e g2) fun z g3 => N (((e.set i (.own x)).set j (.v y)).set l (.v z)) g3) : WS (par3F i j l m b c e g) N T B C :=
  WS.toS (h.mono fun x g1 k => WS.toS (k.mono fun y g2 k2 => WS.toS k2))
theorem wp_star1 {fs : List D → List Cell → R D} {d : D} {ds : List D} {g : List Cell} {P : D → List Cell → Prop} (hl : ds.length ≤ 16777216) (h : WR (fs [d, .tup ds] g) P) : WR (starN 1 fs (d :: ds) g) P := by
  show WR (if ds.length ≤ 16777216 then fs [d, .tup ds] g else .bad) P
  rw [if_pos hl]
  exact h
theorem wp_parFF {e : Env} {g : List Cell} {N : Env → List Cell → Prop} {T : D → List Cell → Prop} {B C : Env → List Cell → Prop} {a b : M (List D)} {i j : Nat} (h : WR (a e g) fun x g1 => WR (b e g1) fun y g2 => N ((e.set i (.own x)).set j (.own y)) g2) : WS (parFF i j a b e g) N T B C := WS.toS (h.mono fun x g1 k => WS.toS k)
theorem wp_asgTF {e : Env} {g : List Cell} {N : Env → List Cell → Prop} {T : D → List Cell → Prop} {B C : Env → List Cell → Prop} {a : M D} {b : M (List D)} {i j : Nat} (h : WR (a e g) fun x g1 => WR (b e g1) fun y g2 => N ((e.set i (.v x)).set j (.own y)) g2) : WS (asgTF i j a b e g) N T B C := WS.toS (h.mono fun x g1 k => WS.toS k)
theorem wp_popT {e e1 : Env} {g : List Cell} {N : Env → List Cell → Prop} {T : D → List Cell → Prop} {B C : Env → List Cell → Prop} {i : Nat} {f : D → Env → Option Env} {ds : List D} {d : D} (hi : e[i]? = some (.own ds)) (hd : ds[ds.length - 1]? = some d) (ht : f d (e.set i (.own ds.dropLast)) = some e1) (h : N e1 g) : WS (popT i f e g) N T B C := by
  unfold popT
  rw [hi]
  simp only [hd, ht]
  exact h
section
variable {e : Env} {g : List Cell} {P : D → List Cell → Prop} {PL : List D → List Cell → Prop} {a b : M D} {m : M (List D)}
theorem wp_rng3 (h : WR (m e g) fun ds g1 => ∃ i j k, ds = [.int i, .int j, .int k] ∧ (rgcB i j k = true ∧ 0 ≤ Builtin.Range.rangeSize i j k) ∧ PL (rngC i k (Builtin.Range.rangeSize i j k).toNat) g1) : WR (rng3It m e g) PL := WR.bind (h.mono fun ds g1 ⟨i, j, k, e1, c, p⟩ => by
  subst e1
  simp only
  rw [if_pos c]
  exact p)
theorem wp_srt (h : WR (m e g) fun ds g1 => ∃ ns, ds = [.lst (ns.map .int)] ∧ PL ((srtI ns).map .int) g1) : WR (srtM m e g) PL := WR.bind (h.mono fun ds g1 ⟨ns, e1, p⟩ => by
  subst e1
  simp only [intsOf_map]
  exact p)
theorem wp_lrg (h : WR (a e g) fun x g1 => WR (b e g1) fun y g2 => ∃ i j, x = .int i ∧ y = .int j ∧ ((-4611686018427387904 ≤ i ∧ i < 4611686018427387904) ∧ (-4611686018427387904 ≤ j ∧ j < 4611686018427387904) ∧ (j - i).toNat ≤ 16777216) ∧ PL (rngL i (j - i).toNat) g2) : WR (lrgM a b e g) PL := WR.bind (h.mono fun x g1 k => WR.bind (k.mono fun y g2 ⟨i, j, e1, e2, c, p⟩ => by
  subst e1; subst e2
  simp only
  rw [if_pos c]
  exact p))
theorem wp_idx (h : WR (a e g) fun x g1 => ∃ ds, x = .lst ds ∧ WR (b e g1) fun y g2 => ∃ j, ((flatD y = true ∧ ds.all flatD = true) ∧ (ds.map toV).findIdx? (fun z => eqV z (toV y)) = some j) ∧ P (.int (j : Nat)) g2) : WR (idxM a b e g) P := WR.bind (h.mono fun x g1 ⟨ds, e1, k⟩ => by
  subst e1
  exact WR.bind (k.mono fun y g2 ⟨j, ⟨c, hj⟩, p⟩ => by
    rw [if_pos c, hj]
    exact p))
end
/-! ### guards -/
theorem isWS {r : RS} {N T B C} (h : WS r N T B C) : WS r N T B C := h
theorem isWRD {r : R D} {P} (h : WR r P) : WR r P := h
theorem isWRB {r : R Bool} {P} (h : WR r P) : WR r P := h
theorem isWRL {r : R (List D)} {P} (h : WR r P) : WR r P := h
theorem isWRO {r : R (Option Int)} {P} (h : WR r P) : WR r P := h
theorem isOp {f a b e g P} (h : WR (opM f a b e g) P) : WR (opM f a b e g) P := h
theorem isUn {f a e g P} (h : WR (unM f a e g) P) : WR (unM f a e g) P := h
theorem isBop {f a b e g P} (h : WR (boolM (opM f a b) e g) P) : WR (boolM (opM f a b) e g) P := h
theorem isBun {f a e g P} (h : WR (boolM (unM f a) e g) P) : WR (boolM (unM f a) e g) P := h
theorem isBr {p PB g} (h : Br p PB g) : Br p PB g := h
theorem isEx {α : Sort _} {p : α → Prop} (h : Exists p) : Exists p := h
theorem isAnd {p q : Prop} (h : p ∧ q) : p ∧ q := h
theorem isIte {p A B : Prop} [Decidable p] (h : if p then A else B) : if p then A else B := h
theorem isEq2 {x y PB g} (h : Eq2 x y PB g) : Eq2 x y PB g := h
theorem isAdd2 {x y P g} (h : Add2 x y P g) : Add2 x y P g := h
theorem isMul2 {x y P g} (h : Mul2 x y P g) : Mul2 x y P g := h
theorem isEq {α : Sort _} {x y : α} (h : x = y) : x = y := h
theorem isOr {p q : Prop} (h : p ∨ q) : p ∨ q := h
end Ev
namespace Ev
open PySem L2
/-! ### generators -/
def WG (r : RG) (P : Env → List D → List Cell → Prop) : Prop := match r with
  | .nx e ys g => P e ys g
  | .bad => False
section
variable {e : Env} {g : List Cell} {ys : List D} {P : Env → List D → List Cell → Prop} {s1 : MS} {a : M D} {t : M Bool} {x y : MG}
theorem WG.mono {r : RG} {P Q : Env → List D → List Cell → Prop} (h : WG r P) (k : ∀ e ys g, P e ys g → Q e ys g) : WG r Q := by
  cases r with
  | nx e ys g => exact k _ _ _ h
  | bad => exact h
theorem wg_plain (h : WS (s1 e g) (fun e1 g1 => P e1 ys g1) (fun _ _ => False) (fun _ _ => False) fun _ _ => False) : WG (plG s1 e ys g) P := by
  unfold plG
  cases q : s1 e g <;> rw [q] at h <;> exact h
theorem wg_yield (h : WR (a e g) fun d g1 => (flatD d = true ∧ ys.length < 16777216) ∧ P e (ys ++ [d]) g1) : WG (yldG a e ys g) P := by
  unfold yldG
  cases q : a e g with
  | ok d g1 =>
    rw [q] at h
    have h : (flatD d = true ∧ ys.length < 16777216) ∧ P e (ys ++ [d]) g1 := h
    simp only
    rw [if_pos h.1]
    exact h.2
  | ex _ _ _ => rw [q] at h; exact h
  | bad => rw [q] at h; exact h
theorem wg_skip (h : P e ys g) : WG (skipG e ys g) P := h
theorem wg_seq (h : WG (x e ys g) fun e1 ys1 g1 => WG (y e1 ys1 g1) P) : WG (seqG x y e ys g) P := by
  unfold seqG
  cases q : x e ys g <;> rw [q] at h <;> exact h
theorem wg_wh (Q : Nat → Env → List D → List Cell → Prop) {n k : Nat} (hn : k < n) (q : Q k e ys g)
    (h : ∀ k e ys g, Q k e ys g → WR (t e g) fun b g1 => if b = true then WG (x e ys g1) (fun e2 ys2 g2 => ∃ j, j < k ∧ Q j e2 ys2 g2) else P e ys g1) : WG (whG t x n e ys g) P := by
  induction n generalizing e ys g k with
  | zero => exact absurd hn (Nat.not_lt_zero _)
  | succ n ih =>
    have h1 := h k e ys g q
    unfold whG
    cases z : t e g with
    | ex _ _ _ => rw [z] at h1; exact h1
    | bad => rw [z] at h1; exact h1
    | ok b g1 =>
      rw [z] at h1
      cases b with
      | false => exact h1
      | true =>
        have h1 : WG (x e ys g1) (fun e2 ys2 g2 => ∃ j, j < k ∧ Q j e2 ys2 g2) := h1
        simp only [if_true]
        cases z2 : x e ys g1 with
        | bad => rw [z2] at h1; exact h1
        | nx e2 ys2 g2 =>
          rw [z2] at h1
          obtain ⟨j, hj, h2⟩ : ∃ j, j < k ∧ Q j e2 ys2 g2 := h1
          exact ih (by omega) h2
theorem wg_fn {n k : Nat} {body : MG} {ds : List D} {PL : List D → List Cell → Prop} (hl : ds.length = n) (h : WG (body (ds.map .v ++ List.replicate (k - n) .no) [] g) fun _ ys g1 => ys.all flatD = true ∧ PL ys g1) : WR (genF n k body ds g) PL := by
  unfold genF
  rw [if_pos hl]
  cases q : body (ds.map .v ++ List.replicate (k - n) .no) [] g with
  | bad => rw [q] at h; exact h.elim
  | nx e1 ys g1 =>
    rw [q] at h
    have h : ys.all flatD = true ∧ PL ys g1 := h
    simp only
    rw [if_pos h.1]
    exact h.2
theorem wp_genM {n : Nat} {f : List D → List Cell → R (List D)} {m : M (List D)} {PL : List D → List Cell → Prop} (h : WR (m e g) fun ds g1 => ds.length = n ∧ WR (f ds g1) fun ys g2 => ys.all flatD = true ∧ PL ys g2) : WR (genM n f m e g) PL := WR.bind (h.mono fun ds g1 ⟨hl, p⟩ => by
  rw [if_pos hl]
  cases q : f ds g1 with
  | ok ys g2 =>
    rw [q] at p
    have p : ys.all flatD = true ∧ PL ys g2 := p
    simp only
    rw [if_pos p.1]
    exact p.2
  | ex _ _ _ => rw [q] at p; exact p.elim
  | bad => rw [q] at p; exact p.elim)
theorem wp_star {a : M D} {r : M (List D)} {PL : List D → List Cell → Prop} (h : WR (a e g) fun d g1 => (∃ xs, d = .tup xs ∧ WR (r e g1) fun ys g2 => PL (xs ++ ys) g2) ∨ ∃ xs, d = .lst xs ∧ WR (r e g1) fun ys g2 => PL (xs ++ ys) g2) : WR (starM a r e g) PL := WR.bind (h.mono fun d g1 q => by
  rcases q with ⟨xs, rfl, q⟩ | ⟨xs, rfl, q⟩
  · exact WR.bind q
  · exact WR.bind q)
theorem wp_sameM {α : Type} {m : M α} {PL : α → List Cell → Prop} (h : WR (m e g) fun a g1 => g1.length = g.length ∧ PL a g1) : WR (sameM m e g) PL := by
  unfold sameM
  cases q : m e g with
  | ok a g1 =>
    rw [q] at h
    have h : g1.length = g.length ∧ PL a g1 := h
    simp only
    rw [if_pos h.1]
    exact h.2
  | ex _ _ _ => rw [q] at h; exact h
  | bad => rw [q] at h; exact h
theorem wp_sameB {m : M Bool} {PL : Bool → List Cell → Prop} (h : WR (m e g) fun a g1 => g1.length = g.length ∧ PL a g1) : WR (sameB m e g) PL := wp_sameM h
theorem wp_sameS {s : MS} {N B C : Env → List Cell → Prop} {T : D → List Cell → Prop} (h : WS (s e g) (fun e1 g1 => g1.length = g.length ∧ N e1 g1) (fun _ _ => False) (fun _ _ => False) fun _ _ => False) : WS (sameS s e g) N T B C := by
  unfold sameS
  cases q : s e g <;> rw [q] at h <;> try exact h.elim
  rename_i e1 g1
  have h : g1.length = g.length ∧ N e1 g1 := h
  simp only
  rw [if_pos h.1]
  exact h.2
theorem wp_genI {n : Nat} {f : List D → List Cell → R (List D)} {m : M (List D)} {PL : List D → List Cell → Prop} (h : WR (m e g) fun ds g1 => ds.length = n ∧ ∃ T, GenOut f ds T ∧ PL T g1) : WR (genI n f m e g) PL := WR.bind (h.mono fun ds g1 ⟨hl, T, ⟨h1, h2⟩, p⟩ => by
  rw [if_pos ⟨hl, h1⟩, h2]
  exact p)
theorem wp_augI {i : Nat} {ds : List D} {mi m : M D} {N : Env → List Cell → Prop} {T : D → List Cell → Prop} {B C : Env → List Cell → Prop} (hi : e[i]? = some (.own ds)) (h : WR (mi e g) fun k g1 => ∃ kk a, k = .int kk ∧ 0 ≤ kk ∧ ds[kk.toNat]? = some (.int a) ∧ WR (m e g1) fun d g2 => ∃ b, d = .int b ∧ N (e.set i (.own (ds.set kk.toNat (.int (a + b))))) g2) : WS (augIS i mi m e g) N T B C := by
  unfold augIS
  rw [hi]
  refine WS.toS (h.mono fun k g1 ⟨kk, a, e1, e2, e3, p⟩ => ?_)
  subst e1
  simp only [e3, if_pos e2]
  refine WS.toS (p.mono fun d g2 ⟨b, e4, p⟩ => ?_)
  subst e4
  exact p
end
end Ev
namespace Ev
open PySem L2
/-! ### objects in cells -/
section
variable {e : Env} {g : List Cell} {P : D → List Cell → Prop} {a mo : M D} {ma mk : M (List D)} {c n k : Nat} {f : List D → List Cell → R D}
theorem cob_at {i : Nat} {d : D} (h : g[i]? = some (.ob c d)) : cobD c (.g i) g = some d := by
  unfold cobD
  simp only [h, if_true]
theorem wp_cob (h : WR (a e g) fun x g1 => ∃ i d, x = .g i ∧ g1[i]? = some (.ob c d) ∧ P d g1) : WR (unM (cobD c) a e g) P := wp_un (h.mono fun x g1 ⟨i, d, e1, e2, p⟩ => ⟨d, by subst e1; exact cob_at e2, p⟩)
theorem wp_setOb {i j : Nat} {N : Env → List Cell → Prop} {T : D → List Cell → Prop} {B C : Env → List Cell → Prop} (hi : e[i]? = some (.v (.g j))) (h : WR (a e g) fun d g1 => (∃ d0, g1[j]? = some (.ob c d0)) ∧ N e (g1.set j (.ob c d))) : WS (setOb c i a e g) N T B C := by
  unfold setOb
  rw [hi]
  refine WS.toS (h.mono fun d g1 ⟨⟨d0, q⟩, p⟩ => ?_)
  simp only [cob_at q, Option.isSome_some, if_true]
  exact p
theorem wp_mth (h : WR (mo e g) fun x g1 => ∃ i d0, x = .g i ∧ g1[i]? = some (.ob c d0) ∧ WR (ma e g1) fun ds g2 => (∃ d1, g2[i]? = some (.ob c d1)) ∧ ds.length + 1 = n ∧ WR (f (.g i :: ds) g2) P) : WR (mthM c n f mo ma e g) P := WR.bind (h.mono fun x g1 ⟨i, d0, e1, e2, p⟩ => by
  subst e1
  simp only [cob_at e2, Option.isSome_some, if_true]
  refine WR.bind (p.mono fun ds g2 ⟨⟨d1, e3⟩, e4, p⟩ => ?_)
  rw [if_pos ⟨by rw [cob_at e3]; rfl, e4⟩]
  exact p)
theorem wp_prp (h : WR (mo e g) fun x g1 => ∃ i d0, x = .g i ∧ g1[i]? = some (.ob c d0) ∧ WR (f [.g i] g1) P) : WR (prpM c f mo e g) P := WR.bind (h.mono fun x g1 ⟨i, d0, e1, e2, p⟩ => by
  subst e1
  simp only [cob_at e2, Option.isSome_some, if_true]
  exact p)
theorem wp_mkC (h : WR (ma e g) fun ds g1 => WR (f ds g1) fun d g2 => P (.g g2.length) (g2 ++ [.ob c d])) : WR (mkCM c f ma e g) P := WR.bind (h.mono fun ds g1 p => WR.bind (p.mono fun d g2 p => p))
theorem wp_mkK (h : WR (ma e g) fun ds g1 => WR (mk e g1) fun zs g2 => (ds.length = n ∧ zs.length = k) ∧ WR (f (ds ++ zs) g2) fun d g3 => P (.g g3.length) (g3 ++ [.ob c d])) : WR (mkKM c n k f ma mk e g) P := WR.bind (h.mono fun ds g1 p => WR.bind (p.mono fun zs g2 ⟨hl, p⟩ => by
  rw [if_pos hl]
  exact WR.bind (p.mono fun d g3 p => p)))
theorem wp_dnew (h : P (.g g.length) (g ++ [.dct []])) : WR (dNewM e g) P := h
theorem wp_done {i j : Int} (h : P (.dct [(i, j)]) g) : WR (dOneM i j e g) P := h
theorem wp_callD (h : WR (ma e g) fun ds g1 => ds.length = n ∧ WR (f ds g1) fun d g2 => ∃ kvs, d = .g g1.length ∧ g2 = g1 ++ [.dct kvs] ∧ P (.dct kvs) g1) : WR (callDM n f ma e g) P := WR.bind (h.mono fun ds g1 ⟨l, p⟩ => by
  rw [if_pos l]
  obtain ⟨d, g2, e1, kvs, rfl, rfl, hp⟩ := p.ex
  rw [e1, dropC_ok]
  exact hp)
theorem wp_lck {i : Nat} {kvs : List (Int × Int)} {ml : M (List D)} {PL : List D → List Cell → Prop} (hi : e[i]? = some (.v (.dct kvs))) (h : WR (ml e g) PL) : WR (lckM i ml e g) PL := by
  unfold lckM
  rw [hi]
  obtain ⟨d, g2, e1, hp⟩ := h.ex
  simp only
  rw [e1]
  exact hp
theorem wp_items {i : Nat} {kvs : List (Int × Int)} {PL : List D → List Cell → Prop} (hi : e[i]? = some (.v (.dct kvs))) (h : PL (itmL kvs) g) : WR (itemsIt i e g) PL := by
  unfold itemsIt
  rw [hi]
  exact h
theorem wp_dput {mv mi : M D} {N : Env → List Cell → Prop} {T : D → List Cell → Prop} {B C : Env → List Cell → Prop} (h : WR (mv e g) fun d g1 => WR (mo e g1) fun x g2 => WR (mi e g2) fun y g3 => ∃ v n k kvs, d = .int v ∧ x = .g n ∧ y = .int k ∧ g3[n]? = some (.dct kvs) ∧ kvs.length < 16777216 ∧ N e (g3.set n (.dct (putI kvs k v)))) : WS (dputS mv mo mi e g) N T B C :=
  WS.toS (h.mono fun d g1 p => WS.toS (p.mono fun x g2 p => WS.toS (p.mono fun y g3 p => by
    obtain ⟨v, n, k, kvs, rfl, rfl, rfl, h1, h2, p⟩ := p
    simp only
    rw [h1]
    simp only
    rw [if_pos h2]
    exact p)))
theorem wp_lckS {i : Nat} {kvs : List (Int × Int)} {s1 : MS} {N : Env → List Cell → Prop} {T : D → List Cell → Prop} {B C : Env → List Cell → Prop} (hi : e[i]? = some (.v (.dct kvs))) (h : WS (s1 e g) N (fun _ _ => False) (fun _ _ => False) (fun _ _ => False)) : WS (lckS i s1 e g) N T B C := by
  unfold lckS
  rw [hi]
  simp only
  cases q : s1 e g <;> rw [q] at h <;> first | exact h | exact h.elim
theorem wp_new {m : M (List D)} (h : WR (m e g) fun ds g1 => P (.g g1.length) (g1 ++ [.lst ds])) : WR (newM m e g) P := WR.bind (h.mono fun _ _ p => p)
theorem wp_appC {mo m : M D} {N : Env → List Cell → Prop} {T : D → List Cell → Prop} {B C : Env → List Cell → Prop} (h : WR (mo e g) fun x g0 => ∃ n ds0, x = .g n ∧ g0[n]? = some (.lst ds0) ∧ WR (m e g0) fun d g1 => ∃ ds, g1[n]? = some (.lst ds) ∧ ds.length < 16777216 ∧ N e (g1.set n (.lst (ds ++ [d])))) : WS (appC mo m e g) N T B C :=
  WS.toS (h.mono fun x g0 ⟨n, ds0, e1, e2, k⟩ => by
    subst e1
    simp only [e2]
    exact WS.toS (k.mono fun d g1 ⟨ds, e3, l, p⟩ => by
      simp only [e3]
      rw [if_pos l]
      exact p))
theorem wp_lstC {mo : M D} {PL : List D → List Cell → Prop} (h : WR (mo e g) fun x g1 => ∃ n ds, x = .g n ∧ g1[n]? = some (.lst ds) ∧ PL ds g1) : WR (lstC mo e g) PL := WR.bind (h.mono fun x g1 ⟨n, ds, e1, e2, p⟩ => by
  subst e1
  simp only [e2]
  exact p)
theorem wp_addF {a b : M D} {PL : List D → List Cell → Prop} (h : WR (a e g) fun x g1 => WR (b e g1) fun y g2 => ∃ xs ys, x = .lst xs ∧ y = .lst ys ∧ xs.length + ys.length ≤ 16777216 ∧ PL (xs ++ ys) g2) : WR (addFF a b e g) PL :=
  WR.bind (h.mono fun x g1 k => WR.bind (k.mono fun y g2 ⟨xs, ys, e1, e2, l, p⟩ => by
    subst e1 e2
    simp only
    rw [if_pos l]
    exact p))
end
end Ev

namespace LW
/-! Ct: lives and rules, plain -/
/-- a life; none: for ever -/
abbrev Lf := Option Int
def LeL : Lf → Lf → Prop
  | _, none => True
  | none, some _ => False
  | some a, some b => a ≤ b
instance LeL.dec : ∀ a b, Decidable (LeL a b)
  | _, none => isTrue (by unfold LeL; trivial)
  | none, some _ => isFalse (fun h => h)
  | some a, some b => inferInstanceAs (Decidable (a ≤ b))
theorem LeL.top (a : Lf) : LeL a none := by cases a <;> trivial
theorem LeL.refl (a : Lf) : LeL a a := by cases a <;> simp [LeL]
theorem LeL.trans {a b c : Lf} (h : LeL a b) (k : LeL b c) : LeL a c := by
  cases a <;> cases b <;> cases c <;> simp_all [LeL]
  omega
theorem LeL.total (a b : Lf) : LeL a b ∨ LeL b a := by
  cases a <;> cases b <;> simp [LeL]
  omega
theorem LeL.anti {a b : Lf} (h : LeL a b) (k : LeL b a) : a = b := by
  cases a <;> cases b <;> simp_all [LeL]
  omega
theorem LeL.some_iff {a b : Int} : LeL (some a) (some b) ↔ a ≤ b := Iff.rfl
theorem LeL.none_iff {b : Lf} : LeL none b ↔ b = none := by cases b <;> simp [LeL]
/-- the life with an index -/
def at0 (L : List Lf) (i : Nat) : Lf := L.getD i none
/-- the life of a rank -/
def fl (L : List Lf) (j : Nat) : Lf := at0 L (min j (L.length - 1))
structure Lives (L : List Lf) : Prop where
  ne : 0 < L.length
  up : ∀ i, i + 1 < L.length → LeL (at0 L i) (at0 L (i + 1))
  nn : ∀ n, some n ∈ L → 0 ≤ n
structure Given (L : List Lf) : Prop extends Lives L where
  most : L.length ≤ 61
  fin : ∀ i, i + 1 < L.length → ∃ n, at0 L i = some n
  small : ∀ n, some n ∈ L → n ≤ 1000000000000000000
theorem at0_eq {L : List Lf} {i : Nat} (h : i < L.length) : L[i]? = some (at0 L i) := by
  unfold at0; rw [List.getD_eq_getElem?_getD, List.getElem?_eq_getElem h]; rfl
theorem at0_mem {L : List Lf} {i : Nat} (h : i < L.length) : at0 L i ∈ L := List.mem_of_getElem? (at0_eq h)
theorem at0_take {L : List Lf} {i n : Nat} (h : i < n) : at0 (L.take n) i = at0 L i := by
  unfold at0; rw [List.getD_eq_getElem?_getD, List.getD_eq_getElem?_getD, List.getElem?_take_of_lt h]
theorem fl_lt {L : List Lf} {j : Nat} (h : j < L.length) : fl L j = at0 L j := by unfold fl; rw [Nat.min_eq_left (by omega)]
theorem fl_last {L : List Lf} {j : Nat} (h : L.length ≤ j + 1) : fl L j = at0 L (L.length - 1) := by unfold fl; rw [Nat.min_eq_right (by omega)]
theorem Lives.mono_at {L : List Lf} (h : Lives L) {i j : Nat} (hij : i ≤ j) (hj : j < L.length) : LeL (at0 L i) (at0 L j) := by
  induction j with
  | zero => rw [Nat.le_zero.mp hij]; exact LeL.refl _
  | succ j ih =>
    by_cases q : i = j + 1
    · rw [q]; exact LeL.refl _
    · exact (ih (by omega) (by omega)).trans (h.up j hj)
theorem Lives.mono {L : List Lf} (h : Lives L) {i j : Nat} (hij : i ≤ j) : LeL (fl L i) (fl L j) :=
  h.mono_at (by omega) (by have := h.ne; omega)
theorem Lives.fl_mem {L : List Lf} (h : Lives L) (j : Nat) : fl L j ∈ L := at0_mem (by have := h.ne; omega)
theorem Lives.fl_nn {L : List Lf} (h : Lives L) {j : Nat} {n : Int} (e : fl L j = some n) : 0 ≤ n := h.nn n (e ▸ h.fl_mem j)
/-- where the shortest tuple ends -/
def cutAt (L : List Lf) : Nat → Nat
  | 0 => 0
  | k + 1 => if 0 < k ∧ at0 L k = at0 L (k - 1) then cutAt L k else k + 1
def short (L : List Lf) : List Lf := L.take (cutAt L L.length)
theorem cutAt_le (L : List Lf) (k : Nat) : cutAt L k ≤ k := by
  induction k with
  | zero => exact Nat.le_refl _
  | succ k ih => unfold cutAt; split <;> omega
theorem cutAt_pos (L : List Lf) (k : Nat) (h : 0 < k) : 0 < cutAt L k := by
  induction k with
  | zero => omega
  | succ k ih => unfold cutAt; split <;> omega
theorem cutAt_tail (L : List Lf) (k i : Nat) (h : cutAt L k ≤ i + 1) (hi : i < k) : at0 L i = at0 L (k - 1) := by
  induction k with
  | zero => omega
  | succ k ih =>
    unfold cutAt at h
    split at h
    · rename_i q
      by_cases z : i = k
      · subst z; rfl
      · rw [ih h (by omega), show k + 1 - 1 = k by omega]; exact q.2.symm
    · rw [show i = k + 1 - 1 by omega]
theorem cutAt_tight (L : List Lf) (k : Nat) (h : 1 < cutAt L k) : at0 L (cutAt L k - 1) ≠ at0 L (cutAt L k - 2) := by
  induction k with
  | zero => unfold cutAt at h; omega
  | succ k ih =>
    unfold cutAt at h ⊢
    split
    · rename_i q; rw [if_pos q] at h; exact ih h
    · rename_i q
      rw [if_neg q] at h
      intro z
      exact q ⟨by omega, z⟩
theorem short_length (L : List Lf) : (short L).length = cutAt L L.length := by
  unfold short; rw [List.length_take, Nat.min_eq_left (cutAt_le ..)]
theorem short_le (L : List Lf) : (short L).length ≤ L.length := by rw [short_length]; exact cutAt_le ..
theorem short_pos {L : List Lf} (h : 0 < L.length) : 0 < (short L).length := by rw [short_length]; exact cutAt_pos _ _ h
theorem short_at {L : List Lf} {i : Nat} (h : i < (short L).length) : at0 (short L) i = at0 L i := by
  rw [short_length] at h; exact at0_take h
theorem fl_short {L : List Lf} (h : 0 < L.length) (j : Nat) : fl (short L) j = fl L j := by
  have h1 := short_pos h
  have h2 := short_le L
  unfold fl
  rw [short_at (by omega)]
  by_cases q : j < (short L).length
  · rw [show min j ((short L).length - 1) = min j (L.length - 1) by omega]
  · rw [show min j ((short L).length - 1) = (short L).length - 1 by omega]
    have a := cutAt_tail L L.length ((short L).length - 1) (by rw [short_length]; omega) (by omega)
    have b := cutAt_tail L L.length (min j (L.length - 1)) (by rw [← short_length]; omega) (by omega)
    rw [a, b]
/-- no two last lives are equal -/
def Tight (L : List Lf) : Prop := 1 < L.length → at0 L (L.length - 1) ≠ at0 L (L.length - 2)
theorem short_tight (L : List Lf) : Tight (short L) := by
  intro h
  rw [short_at (by omega), short_at (by omega)]
  rw [short_length] at h ⊢
  exact cutAt_tight _ _ h
theorem short_mem {L : List Lf} {x : Lf} (h : x ∈ short L) : x ∈ L := List.mem_of_mem_take h
theorem Lives.short {L : List Lf} (h : Lives L) : Lives (short L) where
  ne := short_pos h.ne
  up := fun i hi => by rw [short_at (by omega), short_at hi]; exact h.up i (by have := short_le L; omega)
  nn := fun n hn => h.nn n (short_mem hn)
theorem Given.short {L : List Lf} (h : Given L) : Given (short L) where
  toLives := h.toLives.short
  most := Nat.le_trans (short_le L) h.most
  fin := fun i hi => by rw [short_at (by omega)]; exact h.fin i (by have := short_le L; omega)
  small := fun n hn => h.small n (short_mem hn)
theorem Lives.tight_fin {L : List Lf} (h : Lives L) (t : Tight L) {i : Nat} (hi : i + 1 < L.length) : ∃ n, at0 L i = some n := by
  cases e : at0 L i with
  | some n => exact ⟨n, rfl⟩
  | none =>
    have a := h.mono_at (i := i) (j := L.length - 2) (by omega) (by omega)
    have b := h.mono_at (i := i) (j := L.length - 1) (by omega) (by omega)
    rw [e, LeL.none_iff] at a b
    exact absurd (b.trans a.symm) (t (by omega))
theorem ext_at {L M : List Lf} (hl : L.length = M.length) (h : ∀ i, i < L.length → at0 L i = at0 M i) : L = M := by
  apply List.ext_getElem? 
  intro i
  by_cases q : i < L.length
  · rw [at0_eq q, at0_eq (hl ▸ q), h i q]
  · rw [List.getElem?_eq_none (by omega), List.getElem?_eq_none (by omega)]
theorem tight_inj {L M : List Lf} (hL : 0 < L.length) (hM : 0 < M.length) (tL : Tight L) (tM : Tight M) (h : ∀ j, fl L j = fl M j) : L = M := by
  have key : ∀ {L M : List Lf}, 0 < L.length → 0 < M.length → Tight L → (∀ j, fl L j = fl M j) → L.length ≤ M.length := by
    intro L M hL hM tL h
    apply Nat.le_of_not_lt
    intro q
    apply tL (by omega)
    have a := h (L.length - 1)
    have b := h (L.length - 2)
    rw [fl_lt (by omega), fl_last (L := M) (by omega)] at a
    rw [fl_lt (by omega), fl_last (L := M) (by omega)] at b
    rw [a, b]
  have hl : L.length = M.length := Nat.le_antisymm (key hL hM tL h) (key hM hL tM fun j => (h j).symm)
  exact ext_at hl fun i hi => by rw [← fl_lt hi, ← fl_lt (hl ▸ hi), h]
theorem short_eq_iff {L M : List Lf} (hL : 0 < L.length) (hM : 0 < M.length) : short L = short M ↔ ∀ j, fl L j = fl M j := by
  constructor
  · intro h j
    rw [← fl_short hL, ← fl_short hM, h]
  · intro h
    exact tight_inj (short_pos hL) (short_pos hM) (short_tight L) (short_tight M) fun j => by rw [fl_short hL, fl_short hM, h]
theorem short_short {L : List Lf} (h : 0 < L.length) : short (short L) = short L := (short_eq_iff (short_pos h) h).mpr fun j => fl_short h j
theorem tight_short {L : List Lf} (h : 0 < L.length) (t : Tight L) : short L = L := tight_inj (short_pos h) h (short_tight L) t fun j => fl_short h j
/-! sums -/
def sumTo (f : Nat → Int) : Nat → Int
  | 0 => 0
  | k + 1 => sumTo f k + f k
theorem sumTo_congr {f h : Nat → Int} {n : Nat} (e : ∀ i, i < n → f i = h i) : sumTo f n = sumTo h n := by
  induction n with
  | zero => rfl
  | succ n ih => rw [sumTo, sumTo, ih fun i hi => e i (by omega), e n (by omega)]
theorem sumTo_mul (f : Nat → Int) (c : Int) (n : Nat) : sumTo (fun i => f i * c) n = sumTo f n * c := by
  induction n with
  | zero => simp [sumTo]
  | succ n ih => rw [sumTo, sumTo, ih]; grind
theorem sumTo_add (f h : Nat → Int) (n : Nat) : sumTo (fun i => f i + h i) n = sumTo f n + sumTo h n := by
  induction n with
  | zero => rfl
  | succ n ih => rw [sumTo, sumTo, sumTo, ih]; grind
theorem sumTo_le {f h : Nat → Int} {n : Nat} (e : ∀ i, i < n → f i ≤ h i) : sumTo f n ≤ sumTo h n := by
  induction n with
  | zero => exact Int.le_refl _
  | succ n ih => rw [sumTo, sumTo]; have := ih fun i hi => e i (by omega); have := e n (by omega); omega
/-- the number of a finite life -/
def num (l : Lf) : Int := l.getD 0
/-- the average times 2 to the power of the last index -/
def avS (L : List Lf) (m : Nat) : Int := num (at0 L m) + sumTo (fun i => num (at0 L i) * 2 ^ (m - 1 - i)) m
theorem avS_step {L : List Lf} {m : Nat} (h : at0 L (m + 1) = at0 L m) : avS L (m + 1) = 2 * avS L m := by
  unfold avS
  rw [h, sumTo, show m + 1 - 1 - m = 0 by omega, Int.pow_zero]
  have : sumTo (fun i => num (at0 L i) * 2 ^ (m + 1 - 1 - i)) m = sumTo (fun i => num (at0 L i) * 2 ^ (m - 1 - i) * 2) m := sumTo_congr fun i hi => by
    rw [show m + 1 - 1 - i = (m - 1 - i) + 1 by omega, Int.pow_succ]
    grind
  rw [this, sumTo_mul]
  grind
theorem avS_cut (L : List Lf) (k : Nat) : avS L k = 2 ^ (k + 1 - cutAt L (k + 1)) * avS L (cutAt L (k + 1) - 1) := by
  induction k with
  | zero => simp [cutAt]
  | succ k ih =>
    rw [cutAt]
    split
    · rename_i q
      rw [avS_step q.2, ih]
      have := cutAt_le L (k + 1)
      rw [show k + 1 + 1 - cutAt L (k + 1) = (k + 1 - cutAt L (k + 1)) + 1 by omega, Int.pow_succ]
      grind
    · simp
theorem avS_short {L : List Lf} (h : 0 < L.length) : avS L (L.length - 1) = 2 ^ (L.length - (short L).length) * avS (short L) ((short L).length - 1) := by
  have a := avS_cut L (L.length - 1)
  rw [show L.length - 1 + 1 = L.length by omega, ← short_length] at a
  rw [a]
  congr 1
  have hp := short_pos h
  unfold avS
  rw [short_at (by omega)]
  congr 1
  exact sumTo_congr fun i hi => by rw [short_at (by omega)]
/-- lives that grow, the last one up to h -/
structure Acc (L : List Lf) (h : Int) : Prop where
  fin : ∀ x ∈ L, ∃ n : Int, x = some n ∧ 0 ≤ n ∧ n ≤ h
  up : ∀ i, i + 1 < L.length → LeL (at0 L i) (at0 L (i + 1))
theorem Acc.nil (h : Int) : Acc [] h := ⟨fun _ hx => (nomatch hx), fun i hi => by simp at hi⟩
theorem at0_append_left {L M : List Lf} {i : Nat} (h : i < L.length) : at0 (L ++ M) i = at0 L i := by
  unfold at0; rw [List.getD_eq_getElem?_getD, List.getD_eq_getElem?_getD, List.getElem?_append_left h]
theorem at0_append_last {L : List Lf} {x : Lf} : at0 (L ++ [x]) L.length = x := by
  unfold at0; rw [List.getD_eq_getElem?_getD, List.getElem?_append_right (Nat.le_refl _), Nat.sub_self]; rfl
theorem Acc.push {L : List Lf} {h h' : Int} (a : Acc L h) (h0 : 0 ≤ h') (k : h ≤ h') : Acc (L ++ [some h']) h' := by
  refine ⟨fun x hx => ?_, fun i hi => ?_⟩
  · rcases List.mem_append.mp hx with hx | hx
    · obtain ⟨n, e, n0, n1⟩ := a.fin x hx
      exact ⟨n, e, n0, by omega⟩
    · rw [List.mem_singleton.mp hx]
      exact ⟨h', rfl, h0, Int.le_refl _⟩
  · rw [List.length_append, List.length_singleton] at hi
    by_cases q : i + 1 < L.length
    · rw [at0_append_left (by omega), at0_append_left q]; exact a.up i q
    · have e : i + 1 = L.length := by omega
      rw [at0_append_left (by omega), e, at0_append_last]
      obtain ⟨n, e2, n0, n1⟩ := a.fin _ (at0_mem (L := L) (i := i) (by omega))
      rw [e2]
      exact (show n ≤ h' by omega)
theorem Acc.mono {L : List Lf} {h h' : Int} (a : Acc L h) (k : h ≤ h') : Acc L h' := ⟨fun x hx => let ⟨n, e, n0, n1⟩ := a.fin x hx; ⟨n, e, n0, by omega⟩, a.up⟩
theorem Acc.given {L : List Lf} {h : Int} (a : Acc L h) (h1 : 0 < L.length) (h2 : L.length ≤ 61) (hh : h ≤ 1000000000000000000) : Given L where
  ne := h1
  up := a.up
  nn := fun n hn => by obtain ⟨m, e, m0, m1⟩ := a.fin _ hn; cases e; exact m0
  most := h2
  fin := fun i hi => by obtain ⟨m, e, m0, m1⟩ := a.fin _ (at0_mem (L := L) (i := i) (by omega)); exact ⟨m, e⟩
  small := fun n hn => by obtain ⟨m, e, m0, m1⟩ := a.fin _ hn; cases e; omega
/-- the last life for ever -/
theorem Given.ended {L : List Lf} (h : Given L) : Given (L.take (L.length - 1) ++ [none]) := by
  have h1 := h.ne
  have hl : (L.take (L.length - 1)).length = L.length - 1 := by rw [List.length_take]; omega
  have hl2 : (L.take (L.length - 1) ++ [none]).length = L.length := by rw [List.length_append, hl, List.length_singleton]; omega
  have e : ∀ i, i + 1 < L.length → at0 (L.take (L.length - 1) ++ [none]) i = at0 L i := fun i hi => by
    rw [at0_append_left (by omega), at0_take (by omega)]
  refine ⟨⟨by omega, fun i hi => ?_, fun n hn => ?_⟩, by rw [hl2]; exact h.most, fun i hi => ?_, fun n hn => ?_⟩
  · rw [hl2] at hi
    rw [e i hi]
    by_cases q : i + 2 < L.length
    · rw [e (i + 1) q]; exact h.up i hi
    · rw [show i + 1 = (L.take (L.length - 1)).length by omega, at0_append_last]; exact LeL.top _
  · rcases List.mem_append.mp hn with hx | hx
    · exact h.nn n (List.mem_of_mem_take hx)
    · cases List.mem_singleton.mp hx
  · rw [hl2] at hi
    rw [e i hi]; exact h.fin i hi
  · rcases List.mem_append.mp hn with hx | hx
    · exact h.small n (List.mem_of_mem_take hx)
    · cases List.mem_singleton.mp hx
theorem sum_geo (M : Int) (m : Nat) : sumTo (fun i => M * 2 ^ (m - 1 - i)) m = M * (2 ^ m - 1) := by
  induction m with
  | zero => simp [sumTo]
  | succ m ih =>
    rw [sumTo, show m + 1 - 1 - m = 0 by omega, Int.pow_zero]
    have : sumTo (fun i => M * 2 ^ (m + 1 - 1 - i)) m = sumTo (fun i => M * 2 ^ (m - 1 - i) * 2) m := sumTo_congr fun i hi => by
      rw [show m + 1 - 1 - i = (m - 1 - i) + 1 by omega, Int.pow_succ]
      grind
    rw [this, sumTo_mul, ih, Int.pow_succ]
    grind
theorem avS_le {L : List Lf} {M : Int} (h : ∀ i, num (at0 L i) ≤ M) (m : Nat) : avS L m ≤ M * 2 ^ m := by
  have a := h m
  have b : sumTo (fun i => num (at0 L i) * 2 ^ (m - 1 - i)) m ≤ sumTo (fun i => M * 2 ^ (m - 1 - i)) m := sumTo_le fun i _ => Int.mul_le_mul_of_nonneg_right (h i) (Int.le_of_lt (Int.pow_pos (by decide)))
  rw [sum_geo] at b
  unfold avS
  have : M * 2 ^ m = M * (2 ^ m - 1) + M := by grind
  omega
theorem short_last {L : List Lf} (h : 0 < L.length) : at0 (short L) ((short L).length - 1) = at0 L (L.length - 1) := by
  have a := fl_short h (L.length - 1)
  rw [fl_last (L := L) (by omega), fl_last (L := short L) (by have := short_le L; omega)] at a
  exact a
theorem Given.num_le {L : List Lf} (h : Given L) (i : Nat) : num (at0 L i) ≤ 1000000000000000000 := by
  cases e : at0 L i with
  | none => exact (by decide : (0 : Int) ≤ 1000000000000000000)
  | some n =>
    by_cases q : i < L.length
    · exact h.small n (e ▸ at0_mem q)
    · unfold at0 at e
      rw [List.getD_eq_getElem?_getD, List.getElem?_eq_none (by omega)] at e
      cases e
/-! the least index -/
def least (P : Nat → Bool) : Nat → Option Nat
  | 0 => none
  | n + 1 => match least P n with
    | some j => some j
    | none => if P n = true then some n else none
theorem least_none {P : Nat → Bool} {n : Nat} : least P n = none ↔ ∀ i, i < n → P i = false := by
  induction n with
  | zero => simp [least]
  | succ n ih =>
    rw [least]
    cases e : least P n with
    | some j =>
      simp only [reduceCtorEq, false_iff]
      intro h
      rw [ih.mpr fun i hi => h i (by omega)] at e
      cases e
    | none =>
      have h := ih.mp e
      by_cases q : P n = true
      · rw [if_pos q]
        simp only [reduceCtorEq, false_iff]
        intro z
        have := z n (by omega)
        rw [q] at this
        cases this
      · rw [if_neg q]
        simp only [true_iff]
        intro i hi
        by_cases w : i = n
        · subst w; simpa using q
        · exact h i (by omega)
theorem least_some {P : Nat → Bool} {n j : Nat} : least P n = some j ↔ j < n ∧ P j = true ∧ ∀ i, i < j → P i = false := by
  induction n with
  | zero => simp [least]
  | succ n ih =>
    rw [least]
    cases e : least P n with
    | some k =>
      simp only
      rw [← e, ih]
      constructor
      · rintro ⟨a, b, c⟩; exact ⟨by omega, b, c⟩
      · rintro ⟨a, b, c⟩
        refine ⟨?_, b, c⟩
        apply Nat.lt_of_not_le
        intro q
        have hj : j = n := by omega
        subst hj
        rw [least_none.mpr c] at e
        cases e
    | none =>
      have h := least_none.mp e
      by_cases q : P n = true
      · rw [if_pos q]
        constructor
        · intro z; cases z; exact ⟨by omega, q, h⟩
        · rintro ⟨a, b, c⟩
          by_cases w : j = n
          · rw [w]
          · rw [h j (by omega)] at b; cases b
      · rw [if_neg q]
        constructor
        · intro z; cases z
        · rintro ⟨a, b, c⟩
          by_cases w : j = n
          · subst w; exact absurd b q
          · rw [h j (by omega)] at b; cases b
/-- whether the life with an index is enough for an age -/
def en (L : List Lf) (a : Int) (j : Nat) : Bool := decide (LeL (some (a + 2 ^ j)) (at0 L j))
/-- the worst distance at an age -/
def worstL (L : List Lf) (a : Int) : Lf := (least (en L a) L.length).map fun j => 2 ^ j - 1
theorem en_some {L : List Lf} {a n : Int} {j : Nat} (h : at0 L j = some n) : en L a j = true ↔ a + 2 ^ j ≤ n := by
  unfold en; rw [h, decide_eq_true_iff]; exact Iff.rfl
theorem en_none {L : List Lf} {a : Int} {j : Nat} (h : at0 L j = none) : en L a j = true := by
  unfold en; rw [h]; exact decide_eq_true (LeL.top _)
/-- what a rule promises, by its first lives -/
def prom (L : List Lf) : Nat → List (Lf × Int) × Int
  | 0 => ([], -1)
  | i + 1 => match at0 L i with
    | none => ((prom L i).1 ++ [(none, 2 ^ i - 1)], (prom L i).2)
    | some n => if (prom L i).2 < n - 2 ^ i then ((prom L i).1 ++ [(some (n - 2 ^ i), 2 ^ i - 1)], n - 2 ^ i) else prom L i
theorem prom_last {L : List Lf} {i : Nat} : ∀ j n, j < i → at0 L j = some n → n - 2 ^ j ≤ (prom L i).2 := by
  induction i with
  | zero => intro j n h; omega
  | succ i ih =>
    intro j n h e
    rw [prom]
    by_cases q : j = i
    · subst q
      rw [e]
      simp only
      split
      · exact Int.le_refl _
      · omega
    · have := ih j n (by omega) e
      split
      · exact this
      · split
        · omega
        · exact this
theorem prom_mem {L : List Lf} {i : Nat} {x : Lf × Int} (h : x ∈ (prom L i).1) : ∃ j, j < i ∧ x.2 = 2 ^ j - 1 ∧ ((x.1 = none ∧ at0 L j = none) ∨ ∃ n, at0 L j = some n ∧ x.1 = some (n - 2 ^ j) ∧ (prom L j).2 < n - 2 ^ j) := by
  induction i with
  | zero => exact absurd h (List.not_mem_nil)
  | succ i ih =>
    rw [prom] at h
    have old : x ∈ (prom L i).1 → ∃ j, j < i + 1 ∧ x.2 = 2 ^ j - 1 ∧ ((x.1 = none ∧ at0 L j = none) ∨ ∃ n, at0 L j = some n ∧ x.1 = some (n - 2 ^ j) ∧ (prom L j).2 < n - 2 ^ j) := fun h => by
      obtain ⟨j, a, b⟩ := ih h
      exact ⟨j, by omega, b⟩
    split at h
    · rename_i e
      rcases List.mem_append.mp h with h | h
      · exact old h
      · cases List.mem_singleton.mp h
        exact ⟨i, by omega, rfl, .inl ⟨rfl, e⟩⟩
    · rename_i n e
      split at h
      · rename_i q
        rcases List.mem_append.mp h with h | h
        · exact old h
        · cases List.mem_singleton.mp h
          exact ⟨i, by omega, rfl, .inr ⟨n, e, rfl, q⟩⟩
      · exact old h
theorem two_inj {i j : Nat} (h : (2 : Int) ^ i = 2 ^ j) : i = j := by
  have : (2 : Nat) ^ i = 2 ^ j := by exact_mod_cast h
  exact (Nat.pow_right_inj (by decide : 1 < 2)).mp this
theorem prom_worst {L : List Lf} (h : Lives L) (t : Tight L) {a b : Int} (hm : (some a, b) ∈ (prom L L.length).1) : worstL L a = some b ∧ worstL L (a + 1) ≠ some b := by
  obtain ⟨j, hj, e, q⟩ := prom_mem hm
  rcases q with ⟨z, _⟩ | ⟨n, hn, ea, hl⟩
  · cases z
  have ea : a = n - 2 ^ j := Option.some.inj ea
  have e : b = 2 ^ j - 1 := e
  have hb : ∀ i, i < j → en L a i = false := fun i hi => by
    obtain ⟨m, hm⟩ := h.tight_fin t (i := i) (by omega)
    have := prom_last i m hi hm
    rw [Bool.eq_false_iff]
    intro z
    have := (en_some hm).mp z
    omega
  have h1 : least (en L a) L.length = some j := least_some.mpr ⟨hj, (en_some hn).mpr (by omega), hb⟩
  constructor
  · unfold worstL
    rw [h1, e]; rfl
  · unfold worstL
    cases w : least (en L (a + 1)) L.length with
    | none => intro z; cases z
    | some i =>
      intro z
      have z : (2 : Int) ^ i - 1 = b := Option.some.inj z
      have := two_inj (i := i) (j := j) (by omega)
      subst this
      have := (en_some hn).mp (least_some.mp w).2.1
      omega
theorem prom_none {L : List Lf} {i : Nat} (e : at0 L i = none) : prom L (i + 1) = ((prom L i).1 ++ [(none, 2 ^ i - 1)], (prom L i).2) := by rw [prom, e]
theorem prom_gt {L : List Lf} {i : Nat} {n : Int} (e : at0 L i = some n) (h : (prom L i).2 < n - 2 ^ i) : prom L (i + 1) = ((prom L i).1 ++ [(some (n - 2 ^ i), 2 ^ i - 1)], n - 2 ^ i) := by rw [prom, e]; simp only; rw [if_pos h]
theorem prom_le {L : List Lf} {i : Nat} {n : Int} (e : at0 L i = some n) (h : ¬ (prom L i).2 < n - 2 ^ i) : prom L (i + 1) = prom L i := by rw [prom, e]; simp only; rw [if_neg h]
theorem prom_len (L : List Lf) (i : Nat) : (prom L i).1.length ≤ i := by
  induction i with
  | zero => exact Nat.le_refl _
  | succ i ih =>
    rw [prom]
    split
    · simp; omega
    · split
      · simp; omega
      · omega
/-- another last life -/
theorem Given.put {L : List Lf} {x : Lf} (h : Given L) (hx : LeL (at0 L (L.length - 1)) x) (hb : ∀ n, x = some n → n ≤ 1000000000000000000) : Given (L.take (L.length - 1) ++ [x]) := by
  have h1 := h.ne
  have hl : (L.take (L.length - 1)).length = L.length - 1 := by rw [List.length_take]; omega
  have hl2 : (L.take (L.length - 1) ++ [x]).length = L.length := by rw [List.length_append, hl, List.length_singleton]; omega
  have e : ∀ i, i + 1 < L.length → at0 (L.take (L.length - 1) ++ [x]) i = at0 L i := fun i hi => by
    rw [at0_append_left (by omega), at0_take (by omega)]
  have hn : ∀ n, x = some n → 0 ≤ n := fun n hn => by
    subst hn
    cases q : at0 L (L.length - 1) with
    | none => rw [q] at hx; exact hx.elim
    | some m =>
      rw [q] at hx
      have := h.nn m (q ▸ at0_mem (by omega))
      have hx : m ≤ n := hx
      omega
  refine ⟨⟨by omega, fun i hi => ?_, fun n hn' => ?_⟩, by rw [hl2]; exact h.most, fun i hi => ?_, fun n hn' => ?_⟩
  · rw [hl2] at hi
    rw [e i hi]
    by_cases q : i + 2 < L.length
    · rw [e (i + 1) q]; exact h.up i hi
    · rw [show i + 1 = (L.take (L.length - 1)).length by omega, at0_append_last]
      have := h.up i hi
      rw [show i + 1 = L.length - 1 by omega] at this
      exact this.trans hx
  · rcases List.mem_append.mp hn' with hz | hz
    · exact h.nn n (List.mem_of_mem_take hz)
    · exact hn n (List.mem_singleton.mp hz).symm
  · rw [hl2] at hi
    rw [e i hi]; exact h.fin i hi
  · rcases List.mem_append.mp hn' with hz | hz
    · exact h.small n (List.mem_of_mem_take hz)
    · exact hb n (List.mem_singleton.mp hz).symm
theorem Acc.none {L : List Lf} {h : Int} (a : Acc L h) (h2 : L.length ≤ 60) (hh : h ≤ 1000000000000000000) : Given (L ++ [Option.none]) := by
  refine ⟨⟨by simp, fun i hi => ?_, fun n hn => ?_⟩, by simp; omega, fun i hi => ?_, fun n hn => ?_⟩
  · rw [List.length_append, List.length_singleton] at hi
    by_cases q : i + 1 < L.length
    · rw [at0_append_left (by omega), at0_append_left q]; exact a.up i q
    · rw [show i + 1 = L.length by omega, at0_append_last]; exact LeL.top _
  · rcases List.mem_append.mp hn with hz | hz
    · obtain ⟨m, e, m0, m1⟩ := a.fin _ hz; cases e; exact m0
    · cases List.mem_singleton.mp hz
  · rw [List.length_append, List.length_singleton] at hi
    rw [at0_append_left (by omega)]
    obtain ⟨m, e, m0, m1⟩ := a.fin _ (at0_mem (L := L) (i := i) (by omega))
    exact ⟨m, e⟩
  · rcases List.mem_append.mp hn with hz | hz
    · obtain ⟨m, e, m0, m1⟩ := a.fin _ hz; cases e; omega
    · cases List.mem_singleton.mp hz

end LW
namespace LW
/-! Cu: rules joined, longer, compared -/
def maxL (a b : Lf) : Lf := if LeL b a then a else b
def minL (a b : Lf) : Lf := if LeL b a then b else a
def addL (t : Int) : Lf → Lf
  | none => none
  | some n => some (n + t)
theorem minL_le_left (a b : Lf) : LeL (minL a b) a := by
  unfold minL; split
  · assumption
  · exact LeL.refl _
theorem minL_le_right (a b : Lf) : LeL (minL a b) b := by
  unfold minL; split
  · exact LeL.refl _
  · rename_i h; exact (LeL.total a b).resolve_right h
theorem le_minL {a b c : Lf} (h : LeL c a) (k : LeL c b) : LeL c (minL a b) := by unfold minL; split <;> assumption
theorem le_maxL_left (a b : Lf) : LeL a (maxL a b) := by
  unfold maxL; split
  · exact LeL.refl _
  · rename_i h; exact (LeL.total a b).resolve_right h
theorem le_maxL_right (a b : Lf) : LeL b (maxL a b) := by
  unfold maxL; split
  · assumption
  · exact LeL.refl _
theorem maxL_le {a b c : Lf} (h : LeL a c) (k : LeL b c) : LeL (maxL a b) c := by unfold maxL; split <;> assumption
theorem minL_comm (a b : Lf) : minL a b = minL b a := LeL.anti (le_minL (minL_le_right a b) (minL_le_left a b)) (le_minL (minL_le_right b a) (minL_le_left b a))
theorem maxL_comm (a b : Lf) : maxL a b = maxL b a := LeL.anti (maxL_le (le_maxL_right b a) (le_maxL_left b a)) (maxL_le (le_maxL_right a b) (le_maxL_left a b))
theorem minL_assoc (a b c : Lf) : minL (minL a b) c = minL a (minL b c) := LeL.anti
  (le_minL ((minL_le_left _ _).trans (minL_le_left _ _)) (le_minL ((minL_le_left _ _).trans (minL_le_right _ _)) (minL_le_right _ _)))
  (le_minL (le_minL (minL_le_left _ _) ((minL_le_right _ _).trans (minL_le_left _ _))) ((minL_le_right _ _).trans (minL_le_right _ _)))
theorem maxL_assoc (a b c : Lf) : maxL (maxL a b) c = maxL a (maxL b c) := LeL.anti
  (maxL_le (maxL_le (le_maxL_left _ _) ((le_maxL_left _ _).trans (le_maxL_right _ _))) ((le_maxL_right _ _).trans (le_maxL_right _ _)))
  (maxL_le ((le_maxL_left _ _).trans (le_maxL_left _ _)) (maxL_le ((le_maxL_right _ _).trans (le_maxL_left _ _)) (le_maxL_right _ _)))
theorem minL_self (a : Lf) : minL a a = a := LeL.anti (minL_le_left _ _) (le_minL (LeL.refl _) (LeL.refl _))
theorem maxL_self (a : Lf) : maxL a a = a := LeL.anti (maxL_le (LeL.refl _) (LeL.refl _)) (le_maxL_left _ _)
theorem minL_eq_left {a b : Lf} (h : LeL a b) : minL a b = a := LeL.anti (minL_le_left _ _) (le_minL (LeL.refl _) h)
theorem minL_eq_right {a b : Lf} (h : LeL b a) : minL a b = b := LeL.anti (minL_le_right _ _) (le_minL h (LeL.refl _))
theorem maxL_eq_left {a b : Lf} (h : LeL b a) : maxL a b = a := LeL.anti (maxL_le (LeL.refl _) h) (le_maxL_left _ _)
theorem maxL_eq_right {a b : Lf} (h : LeL a b) : maxL a b = b := LeL.anti (maxL_le h (LeL.refl _)) (le_maxL_right _ _)
theorem minL_none_left (a : Lf) : minL none a = a := minL_eq_right (LeL.top a)
theorem minL_none_right (a : Lf) : minL a none = a := minL_eq_left (LeL.top a)
theorem minL_some (a b : Int) : minL (some a) (some b) = some (min a b) := by
  unfold minL
  by_cases h : b ≤ a
  · rw [if_pos (show LeL (some b) (some a) from h), Int.min_eq_right h]
  · rw [if_neg (show ¬ LeL (some b) (some a) from h), Int.min_eq_left (by omega)]
theorem maxL_some (a b : Int) : maxL (some a) (some b) = some (max a b) := by
  unfold maxL
  by_cases h : b ≤ a
  · rw [if_pos (show LeL (some b) (some a) from h), Int.max_eq_left h]
  · rw [if_neg (show ¬ LeL (some b) (some a) from h), Int.max_eq_right (by omega)]
theorem minL_mono {a b c d : Lf} (h : LeL a c) (k : LeL b d) : LeL (minL a b) (minL c d) := le_minL ((minL_le_left _ _).trans h) ((minL_le_right _ _).trans k)
theorem maxL_mono {a b c d : Lf} (h : LeL a c) (k : LeL b d) : LeL (maxL a b) (maxL c d) := maxL_le (h.trans (le_maxL_left _ _)) (k.trans (le_maxL_right _ _))
theorem addL_mono {t : Int} {a b : Lf} (h : LeL a b) : LeL (addL t a) (addL t b) := by
  cases a <;> cases b <;> simp_all [LeL, addL]
theorem addL_add (s t : Int) (a : Lf) : addL s (addL t a) = addL (t + s) a := by
  cases a
  · rfl
  · simp only [addL, Int.add_assoc]
theorem addL_zero (a : Lf) : addL 0 a = a := by
  cases a
  · rfl
  · simp only [addL, Int.add_zero]
theorem le_addL {t : Int} (h : 0 ≤ t) (a : Lf) : LeL a (addL t a) := by
  cases a
  · exact LeL.top _
  · exact (show _ ≤ _ by omega)
theorem addL_inj {t : Int} {a b : Lf} (h : addL t a = addL t b) : a = b := by
  cases a <;> cases b <;> simp_all [addL]
theorem addL_none {t : Int} {a : Lf} : addL t a = none ↔ a = none := by cases a <;> simp [addL]
/-- a rule's lives -/
structure Rul (L : List Lf) : Prop extends Lives L where
  tight : Tight L
  most : L.length ≤ 61
/-- bounds of the numbers -/
def Bd (M : Int) (L : List Lf) : Prop := ∀ n, some n ∈ L → n ≤ M
theorem Given.rul {L : List Lf} (h : Given L) : Rul (LW.short L) := ⟨h.toLives.short, short_tight L, h.short.most⟩
theorem Given.bd {L : List Lf} (h : Given L) : Bd 1000000000000000000 L := h.small
theorem Bd.short {M : Int} {L : List Lf} (h : Bd M L) : Bd M (LW.short L) := fun n hn => h n (short_mem hn)
theorem Bd.mono {M M' : Int} {L : List Lf} (h : Bd M L) (k : M ≤ M') : Bd M' L := fun n hn => Int.le_trans (h n hn) k
/-- rank by rank -/
def joinW (f : Lf → Lf → Lf) (L M : List Lf) : List Lf := (List.range (max L.length M.length)).map fun i => f (fl L i) (fl M i)
theorem joinW_len (f : Lf → Lf → Lf) (L M : List Lf) : (joinW f L M).length = max L.length M.length := by unfold joinW; rw [List.length_map, List.length_range]
theorem joinW_at {f : Lf → Lf → Lf} {L M : List Lf} {i : Nat} (h : i < max L.length M.length) : at0 (joinW f L M) i = f (fl L i) (fl M i) := by
  unfold at0 joinW
  rw [List.getD_eq_getElem?_getD, List.getElem?_map, List.getElem?_range h]
  rfl
theorem fl_over {L : List Lf} {i j : Nat} (h1 : L.length ≤ i + 1) (h2 : L.length ≤ j + 1) : fl L i = fl L j := by rw [fl_last h1, fl_last h2]
theorem fl_joinW {f : Lf → Lf → Lf} {L M : List Lf} (hL : 0 < L.length) (j : Nat) : fl (joinW f L M) j = f (fl L j) (fl M j) := by
  unfold fl
  rw [joinW_len, joinW_at (by omega)]
  by_cases h : j ≤ max L.length M.length - 1
  · rw [Nat.min_eq_left h]; rfl
  · rw [Nat.min_eq_right (by omega)]
    have e1 := fl_over (L := L) (i := max L.length M.length - 1) (j := j) (by omega) (by omega)
    have e2 := fl_over (L := M) (i := max L.length M.length - 1) (j := j) (by omega) (by omega)
    unfold fl at e1 e2
    unfold fl
    rw [e1, e2]
theorem lives_of_fl {L : List Lf} (h : 0 < L.length) (up : ∀ i, LeL (fl L i) (fl L (i + 1))) (nn : ∀ i n, fl L i = some n → 0 ≤ n) : Lives L := by
  refine ⟨h, fun i hi => ?_, fun n hn => ?_⟩
  · have := up i
    rwa [fl_lt (by omega), fl_lt hi] at this
  · obtain ⟨i, hi, e⟩ := List.getElem_of_mem hn
    refine nn i n ?_
    rw [fl_lt hi, ← e]
    exact (Option.some.inj ((at0_eq hi).symm.trans (List.getElem?_eq_getElem hi)))
theorem bd_of_fl {L : List Lf} {M : Int} (h : ∀ i n, fl L i = some n → n ≤ M) : Bd M L := fun n hn => by
  obtain ⟨i, hi, e⟩ := List.getElem_of_mem hn
  refine h i n ?_
  rw [fl_lt hi, ← e]
  exact (Option.some.inj ((at0_eq hi).symm.trans (List.getElem?_eq_getElem hi)))
theorem Bd.fl {L : List Lf} {M : Int} (h : Bd M L) (hL : 0 < L.length) {i : Nat} {n : Int} (e : fl L i = some n) : n ≤ M := h n (by rw [← e]; exact at0_mem (by omega))
theorem Lives.fl_up {L : List Lf} (h : Lives L) (i : Nat) : LeL (LW.fl L i) (LW.fl L (i + 1)) := h.mono (Nat.le_succ i)
theorem joinW_lives {f : Lf → Lf → Lf} {L M : List Lf} (hL : Lives L) (hM : Lives M) (hf : ∀ a b c d, LeL a c → LeL b d → LeL (f a b) (f c d)) (hs : ∀ a b, f a b = a ∨ f a b = b) : Lives (joinW f L M) := by
  refine lives_of_fl (by rw [joinW_len]; have := hL.ne; omega) (fun i => ?_) fun i n e => ?_
  · rw [fl_joinW hL.ne, fl_joinW hL.ne]
    exact hf _ _ _ _ (hL.fl_up i) (hM.fl_up i)
  · rw [fl_joinW hL.ne] at e
    rcases hs (fl L i) (fl M i) with q | q
    · rw [q] at e; exact hL.fl_nn e
    · rw [q] at e; exact hM.fl_nn e
theorem minL_or (a b : Lf) : minL a b = a ∨ minL a b = b := by unfold minL; split <;> simp
theorem maxL_or (a b : Lf) : maxL a b = a ∨ maxL a b = b := by unfold maxL; split <;> simp
/-- the rules of the operators -/
def andR (L M : List Lf) : List Lf := short (joinW minL L M)
def orR (L M : List Lf) : List Lf := short (joinW maxL L M)
def addR (L : List Lf) (t : Int) : List Lf := short (L.map (addL t))
theorem at0_map {f : Lf → Lf} {L : List Lf} {i : Nat} (h : i < L.length) : at0 (L.map f) i = f (at0 L i) := by
  have := at0_eq h
  unfold at0 at this ⊢
  rw [List.getD_eq_getElem?_getD, List.getElem?_map, this]
  rfl
theorem fl_map {f : Lf → Lf} {L : List Lf} (h : 0 < L.length) (j : Nat) : fl (L.map f) j = f (fl L j) := by
  unfold fl
  rw [List.length_map, at0_map (by omega)]
theorem addR_lives {L : List Lf} {t : Int} (h : Lives L) (ht : 0 ≤ t) : Lives (L.map (addL t)) := by
  refine lives_of_fl (by rw [List.length_map]; exact h.ne) (fun i => ?_) fun i n e => ?_
  · rw [fl_map h.ne, fl_map h.ne]; exact addL_mono (h.fl_up i)
  · rw [fl_map h.ne] at e
    cases q : fl L i with
    | none => rw [q] at e; cases e
    | some m =>
      rw [q] at e
      cases e
      have := h.fl_nn q
      omega
theorem andR_rul {L M : List Lf} (hL : Rul L) (hM : Rul M) : Rul (andR L M) := by
  have h := joinW_lives hL.toLives hM.toLives (fun a b c d => minL_mono) minL_or
  refine ⟨h.short, short_tight _, Nat.le_trans (short_le _) ?_⟩
  rw [joinW_len]
  have := hL.most
  have := hM.most
  omega
theorem orR_rul {L M : List Lf} (hL : Rul L) (hM : Rul M) : Rul (orR L M) := by
  have h := joinW_lives hL.toLives hM.toLives (fun a b c d => maxL_mono) maxL_or
  refine ⟨h.short, short_tight _, Nat.le_trans (short_le _) ?_⟩
  rw [joinW_len]
  have := hL.most
  have := hM.most
  omega
theorem addR_rul {L : List Lf} {t : Int} (hL : Rul L) (ht : 0 ≤ t) : Rul (addR L t) :=
  ⟨(addR_lives hL.toLives ht).short, short_tight _, Nat.le_trans (short_le _) (by rw [List.length_map]; exact hL.most)⟩
theorem fl_andR {L M : List Lf} (hL : 0 < L.length) (j : Nat) : fl (andR L M) j = minL (fl L j) (fl M j) := by
  unfold andR; rw [fl_short (by rw [joinW_len]; omega), fl_joinW hL]
theorem fl_orR {L M : List Lf} (hL : 0 < L.length) (j : Nat) : fl (orR L M) j = maxL (fl L j) (fl M j) := by
  unfold orR; rw [fl_short (by rw [joinW_len]; omega), fl_joinW hL]
theorem fl_addR {L : List Lf} {t : Int} (hL : 0 < L.length) (j : Nat) : fl (addR L t) j = addL t (fl L j) := by
  unfold addR; rw [fl_short (by rw [List.length_map]; omega), fl_map hL]
theorem Rul.ext {L M : List Lf} (hL : Rul L) (hM : Rul M) (h : ∀ j, fl L j = fl M j) : L = M := tight_inj hL.ne hM.ne hL.tight hM.tight h
theorem andR_bd {L M : List Lf} {A B : Int} (hL : Rul L) (hM : Rul M) (a : Bd A L) (b : Bd B M) : Bd (max A B) (andR L M) := bd_of_fl fun i n e => by
  rw [fl_andR hL.ne] at e
  rcases minL_or (fl L i) (fl M i) with q | q
  · rw [q] at e; have := a.fl hL.ne e; omega
  · rw [q] at e; have := b.fl hM.ne e; omega
theorem orR_bd {L M : List Lf} {A B : Int} (hL : Rul L) (hM : Rul M) (a : Bd A L) (b : Bd B M) : Bd (max A B) (orR L M) := bd_of_fl fun i n e => by
  rw [fl_orR hL.ne] at e
  rcases maxL_or (fl L i) (fl M i) with q | q
  · rw [q] at e; have := a.fl hL.ne e; omega
  · rw [q] at e; have := b.fl hM.ne e; omega
theorem addR_bd {L : List Lf} {A t : Int} (hL : Rul L) (a : Bd A L) : Bd (A + t) (addR L t) := bd_of_fl fun i n e => by
  rw [fl_addR hL.ne] at e
  cases q : fl L i with
  | none => rw [q] at e; cases e
  | some m =>
    rw [q] at e
    cases e
    have := a.fl hL.ne q
    omega
/-- no life of one is greater -/
def leR (L M : List Lf) : Bool := (List.range (max L.length M.length)).all fun i => decide (LeL (fl L i) (fl M i))
theorem leR_iff {L M : List Lf} : leR L M = true ↔ ∀ j, LeL (fl L j) (fl M j) := by
  unfold leR
  rw [List.all_eq_true]
  constructor
  · intro h j
    by_cases q : j < max L.length M.length
    · exact of_decide_eq_true (h j (List.mem_range.mpr q))
    · by_cases z : max L.length M.length = 0
      · have e1 : fl L j = none := by unfold fl at0; rw [List.eq_nil_of_length_eq_zero (show L.length = 0 by omega)]; rfl
        have e2 : fl M j = none := by unfold fl at0; rw [List.eq_nil_of_length_eq_zero (show M.length = 0 by omega)]; rfl
        rw [e1, e2]; exact LeL.refl _
      · have := of_decide_eq_true (h (max L.length M.length - 1) (List.mem_range.mpr (by omega)))
        rwa [fl_over (L := L) (j := j) (by omega) (by omega), fl_over (L := M) (j := j) (by omega) (by omega)] at this
  · intro h i _
    exact decide_eq_true (h i)

end LW
namespace LW
/-! Ck: kept points, restore points, distances: plain -/
theorem pw_pos (k : Nat) : (0 : Int) < 2 ^ k := Int.pow_pos (by decide)
theorem pw_le {a b : Nat} (h : a ≤ b) : (2 : Int) ^ a ≤ 2 ^ b := by exact_mod_cast Nat.pow_le_pow_right (show 2 > 0 by decide) h
theorem pw_succ (k : Nat) : (2 : Int) ^ (k + 1) = 2 * 2 ^ k := by rw [Int.pow_succ]; omega
theorem pw_dvd {a b : Nat} (h : a ≤ b) : (2 : Int) ^ a ∣ 2 ^ b := ⟨2 ^ (b - a), by rw [← Int.pow_add]; congr 1; omega⟩
theorem mod_down {a b : Nat} {p : Int} (h : a ≤ b) (k : p % 2 ^ b = 0) : p % 2 ^ a = 0 :=
  Int.emod_eq_zero_of_dvd (Int.dvd_trans (pw_dvd h) (Int.dvd_of_emod_eq_zero k))
/-- the greatest power of two up to an index that divides a point -/
def cap : Nat → Int → Nat
  | 0, _ => 0
  | m + 1, p => if p % 2 ^ (m + 1) = 0 then m + 1 else cap m p
theorem cap_le (m : Nat) (p : Int) : cap m p ≤ m := by
  induction m with
  | zero => exact Nat.le_refl _
  | succ m ih => unfold cap; split <;> omega
theorem cap_mod (m : Nat) (p : Int) : p % 2 ^ cap m p = 0 := by
  induction m with
  | zero => unfold cap; simp
  | succ m ih =>
    unfold cap
    split
    · assumption
    · exact ih
theorem cap_next {m : Nat} {p : Int} (h : cap m p < m) : p % 2 ^ (cap m p + 1) ≠ 0 := by
  induction m with
  | zero => omega
  | succ m ih =>
    unfold cap at h ⊢
    split at h
    · omega
    · rename_i q
      rw [if_neg q]
      by_cases w : cap m p < m
      · exact ih w
      · have := cap_le m p
        rw [show cap m p = m by omega]; exact q
theorem le_cap {m i : Nat} {p : Int} (h : i ≤ m) (k : p % 2 ^ i = 0) : i ≤ cap m p := by
  apply Nat.le_of_not_lt
  intro q
  exact cap_next (m := m) (p := p) (by omega) (mod_down (by omega) k)
theorem cap_eq {m i : Nat} {p : Int} (h : i ≤ m) (k : p % 2 ^ i = 0) (n : i = m ∨ p % 2 ^ (i + 1) ≠ 0) : cap m p = i := by
  have h1 := le_cap h k
  have h2 := cap_le m p
  rcases n with n | n
  · omega
  · apply Nat.le_antisymm _ h1
    apply Nat.le_of_not_lt
    intro q
    exact n (mod_down (by omega) (cap_mod m p))
theorem cap_min {m n : Nat} (p : Int) (h : n ≤ m) : cap n p = min n (cap m p) := by
  by_cases q : cap m p < n
  · rw [Nat.min_eq_right (by omega)]
    exact cap_eq (by omega) (cap_mod m p) (.inr (cap_next (by omega)))
  · rw [Nat.min_eq_left (by omega)]
    exact cap_eq (Nat.le_refl _) (mod_down (by omega) (cap_mod m p)) (.inl rfl)
theorem cap_zero (m : Nat) : cap m 0 = m := cap_eq (Nat.le_refl _) (by simp) (.inl rfl)
/-- the life of a point -/
def lfp (L : List Lf) (p : Int) : Lf := at0 L (cap (L.length - 1) p)
theorem lfp_fl {L : List Lf} {m : Nat} (p : Int) (h : L.length - 1 ≤ m) : lfp L p = fl L (cap m p) := by
  unfold lfp fl
  rw [cap_min p h, Nat.min_comm]
theorem lfp_short {L : List Lf} (h : 0 < L.length) (p : Int) : lfp (short L) p = lfp L p := by
  have := short_le L
  rw [lfp_fl (m := L.length - 1) p (by omega), lfp_fl (m := L.length - 1) p (by omega), fl_short h]
/-- a point is kept at a tick -/
def Kp (L : List Lf) (t p : Int) : Prop := 0 ≤ p ∧ p ≤ t ∧ LeL (some (t - p + 1)) (lfp L p)
instance Kp.dec (L : List Lf) (t p : Int) : Decidable (Kp L t p) := inferInstanceAs (Decidable (_ ∧ _ ∧ _))
theorem Kp_short {L : List Lf} (h : 0 < L.length) {t p : Int} : Kp (short L) t p ↔ Kp L t p := by unfold Kp; rw [lfp_short h]
def youngI (t : Int) (i : Nat) : Option Int := if 2 ^ i ≤ t then some (t - (t - 2 ^ i) % (2 * 2 ^ i)) else none
/-- the youngest point up to a tick for which the life with an index holds -/
def ybI (n : Nat) (t : Int) (i : Nat) : Option Int := if i + 1 = n then some (t - t % 2 ^ i) else youngI t i
def oldI (L : List Lf) (t : Int) (i : Nat) : Int := match at0 L i with
  | none => 0
  | some x => max 0 (t - x + 1)
theorem oldI_le {L : List Lf} {t p : Int} {i : Nat} (h : 0 ≤ p) : oldI L t i ≤ p ↔ LeL (some (t - p + 1)) (at0 L i) := by
  unfold oldI
  cases at0 L i with
  | none => exact ⟨fun _ => LeL.top _, fun _ => h⟩
  | some x => simp only [LeL]; omega
theorem emod_le_self {a b : Int} (h : 0 ≤ a) (hb : 0 < b) : a % b ≤ a := by
  by_cases q : a < b
  · rw [Int.emod_eq_of_lt h q]; exact Int.le_refl _
  · have := Int.emod_lt_of_pos a hb
    omega
theorem odd_mod {p s : Int} (hs : 0 < s) : (p % s = 0 ∧ p % (2 * s) ≠ 0) ↔ p % (2 * s) = s := by
  have h1 := Int.emod_add_mul_ediv p (2 * s)
  have h2 := Int.emod_nonneg p (show 2 * s ≠ 0 by omega)
  have h3 := Int.emod_lt_of_pos p (show 0 < 2 * s by omega)
  have h4 : p % (2 * s) % s = p % s := Int.emod_emod_of_dvd p ⟨2, by rw [Int.mul_comm]⟩
  constructor
  · rintro ⟨a, b⟩
    rw [a] at h4
    obtain ⟨k, hk⟩ := Int.dvd_of_emod_eq_zero h4
    rw [hk] at h2 h3 b ⊢
    have : 0 < k := by
      apply Int.lt_of_not_ge
      intro q
      have : s * k ≤ 0 := Int.mul_nonpos_of_nonneg_of_nonpos (by omega) q
      omega
    have : k < 2 := by
      apply Int.lt_of_not_ge
      intro q
      have : s * 2 ≤ s * k := Int.mul_le_mul_of_nonneg_left q (by omega)
      omega
    have : k = 1 := by omega
    subst this
    omega
  · intro a
    rw [a] at h4
    rw [Int.emod_self] at h4
    exact ⟨h4.symm, by omega⟩
theorem young_mod {t : Int} {i : Nat} : (t - (t - 2 ^ i) % (2 * 2 ^ i)) % (2 * 2 ^ i) = 2 ^ i := by
  have h := pw_pos i
  have h1 : t - (t - 2 ^ i) % (2 * 2 ^ i) = 2 ^ i + 2 * 2 ^ i * ((t - 2 ^ i) / (2 * 2 ^ i)) := by
    have := Int.emod_add_mul_ediv (t - 2 ^ i) (2 * 2 ^ i)
    omega
  rw [h1, Int.add_mul_emod_self_left]
  exact Int.emod_eq_of_lt (by omega) (by omega)
theorem cap_rank {n i : Nat} {p : Int} (hi : i + 1 < n) : cap (n - 1) p = i ↔ p % (2 * 2 ^ i) = 2 ^ i := by
  rw [← odd_mod (pw_pos i), ← pw_succ]
  constructor
  · intro h
    subst h
    exact ⟨cap_mod _ _, cap_next (by omega)⟩
  · rintro ⟨a, b⟩
    exact cap_eq (by omega) a (.inr b)
theorem cap_last {n : Nat} {p : Int} : cap (n - 1) p = n - 1 ↔ p % 2 ^ (n - 1) = 0 :=
  ⟨fun h => by have := cap_mod (n - 1) p; rwa [h] at this, fun h => cap_eq (Nat.le_refl _) h (.inl rfl)⟩
theorem ybI_some {n i : Nat} {t p : Int} (hi : i < n) (h0 : 0 ≤ t) (h : ybI n t i = some p) : 0 ≤ p ∧ p ≤ t ∧ cap (n - 1) p = i := by
  have hp := pw_pos i
  unfold ybI at h
  split at h
  · rename_i q
    cases h
    have h1 := Int.emod_nonneg t (show (2 : Int) ^ i ≠ 0 by omega)
    have h2 := emod_le_self (b := 2 ^ i) h0 hp
    have h3 := Int.emod_add_mul_ediv t (2 ^ i)
    refine ⟨by omega, by omega, ?_⟩
    rw [show i = n - 1 by omega] at h3 ⊢
    rw [cap_last]
    rw [show t - t % 2 ^ (n - 1) = 2 ^ (n - 1) * (t / 2 ^ (n - 1)) by omega]
    exact Int.mul_emod_right _ _
  · unfold youngI at h
    split at h
    · rename_i q q2
      cases h
      have h1 := Int.emod_nonneg (t - 2 ^ i) (show (2 : Int) * 2 ^ i ≠ 0 by omega)
      have h2 := emod_le_self (b := 2 * 2 ^ i) (show 0 ≤ t - 2 ^ i by omega) (by omega)
      exact ⟨by omega, by omega, (cap_rank (by omega)).mpr young_mod⟩
    · cases h
theorem mod_gap {p q s m : Int} (hs : 0 < s) (h1 : p % s = m) (h2 : q % s = m) (h : p < q) : p + s ≤ q := by
  have a := Int.emod_add_mul_ediv p s
  have b := Int.emod_add_mul_ediv q s
  have c : p / s < q / s := by
    apply Int.lt_of_not_ge
    intro z
    have := Int.mul_le_mul_of_nonneg_left z (show 0 ≤ s by omega)
    omega
  have : s * (p / s + 1) ≤ s * (q / s) := Int.mul_le_mul_of_nonneg_left (by omega) (by omega)
  rw [Int.mul_add, Int.mul_one] at this
  omega
theorem ybI_top {n : Nat} {t q : Int} (hn : 0 < n) (h0 : 0 ≤ q) (h1 : q ≤ t) : ∃ p, ybI n t (cap (n - 1) q) = some p ∧ q ≤ p := by
  have hc := cap_le (n - 1) q
  have hp := pw_pos (cap (n - 1) q)
  unfold ybI
  split
  · rename_i w
    refine ⟨_, rfl, ?_⟩
    have h2 := cap_mod (n - 1) q
    have h3 := Int.emod_lt_of_pos t hp
    have h4 := Int.emod_add_mul_ediv t (2 ^ cap (n - 1) q)
    apply Int.le_of_not_gt
    intro z
    have := mod_gap hp (show (t - t % 2 ^ cap (n - 1) q) % 2 ^ cap (n - 1) q = 0 by
      rw [show t - t % 2 ^ cap (n - 1) q = 2 ^ cap (n - 1) q * (t / 2 ^ cap (n - 1) q) by omega]
      exact Int.mul_emod_right _ _) h2 z
    omega
  · rename_i w
    have hr := (cap_rank (n := n) (i := cap (n - 1) q) (p := q) (by omega)).mp rfl
    have hq : 2 ^ cap (n - 1) q ≤ q := by
      apply Int.le_of_not_gt
      intro z
      rw [Int.emod_eq_of_lt h0 (by omega)] at hr
      omega
    unfold youngI
    rw [if_pos (by omega)]
    refine ⟨_, rfl, ?_⟩
    have h3 := Int.emod_lt_of_pos (t - 2 ^ cap (n - 1) q) (show 0 < 2 * 2 ^ cap (n - 1) q by omega)
    apply Int.le_of_not_gt
    intro z
    have := mod_gap (show 0 < 2 * 2 ^ cap (n - 1) q by omega) young_mod hr z
    omega
/-- the points that a restore may use, by index -/
def fitI (L : List Lf) (t a : Int) : List Int := (List.range L.length).filterMap fun i => match ybI L.length (t - a) i with
  | some p => if oldI L t i ≤ p then some p else none
  | none => none
def maxO : List Int → Option Int
  | [] => none
  | n :: ns => some (ns.foldl max n)
theorem foldl_max_mem : ∀ (ns : List Int) (n : Int), ns.foldl max n ∈ n :: ns
  | [], n => by simp
  | m :: ns, n => by
    have := foldl_max_mem ns (max n m)
    rw [List.foldl_cons]
    rcases List.mem_cons.mp this with h | h
    · rw [h]
      by_cases q : n ≤ m
      · rw [Int.max_eq_right q]; simp
      · rw [Int.max_eq_left (by omega)]; simp
    · exact List.mem_cons_of_mem _ (List.mem_cons_of_mem _ h)
theorem foldl_max_ge : ∀ (ns : List Int) (n x : Int), x ∈ n :: ns → x ≤ ns.foldl max n
  | [], n, x, h => by simp at h; simp [h]
  | m :: ns, n, x, h => by
    rw [List.foldl_cons]
    have h1 := foldl_max_ge ns (max n m) (max n m) (List.mem_cons_self ..)
    rcases List.mem_cons.mp h with h | h
    · omega
    · rcases List.mem_cons.mp h with h | h
      · omega
      · exact foldl_max_ge ns _ x (List.mem_cons_of_mem _ h)
theorem maxO_none {ns : List Int} : maxO ns = none ↔ ns = [] := by cases ns <;> simp [maxO]
theorem maxO_some {ns : List Int} {m : Int} : maxO ns = some m ↔ m ∈ ns ∧ ∀ x ∈ ns, x ≤ m := by
  cases ns with
  | nil => simp [maxO]
  | cons n ns =>
    simp only [maxO, Option.some.injEq]
    constructor
    · intro h
      subst h
      exact ⟨foldl_max_mem _ _, fun x => foldl_max_ge _ _ x⟩
    · rintro ⟨a, b⟩
      exact Int.le_antisymm (b _ (foldl_max_mem _ _)) (foldl_max_ge _ _ _ a)
def resI (L : List Lf) (t a : Int) : Option Int := maxO (fitI L t a)
/-- o is the greatest kept point of at least an age -/
def ResP (L : List Lf) (t a : Int) : Option Int → Prop
  | none => ∀ q, Kp L t q → t - a < q
  | some p => Kp L t p ∧ p ≤ t - a ∧ ∀ q, Kp L t q → q ≤ t - a → q ≤ p
theorem ResP.uniq {L : List Lf} {t a : Int} {o o' : Option Int} (h : ResP L t a o) (k : ResP L t a o') : o = o' := by
  cases o with
  | none =>
    cases o' with
    | none => rfl
    | some p => have := h _ k.1; have := k.2.1; omega
  | some q =>
    cases o' with
    | none => have := k _ h.1; have := h.2.1; omega
    | some p =>
      congr 1
      exact Int.le_antisymm (k.2.2 _ h.1 h.2.1) (h.2.2 _ k.1 k.2.1)
theorem fitI_mem {L : List Lf} {t a p : Int} (h0 : 0 ≤ t - a) (ha : 0 ≤ a) (h : p ∈ fitI L t a) : Kp L t p ∧ p ≤ t - a := by
  unfold fitI at h
  obtain ⟨i, hi, e⟩ := List.mem_filterMap.mp h
  rw [List.mem_range] at hi
  split at e
  · rename_i q hq
    split at e
    · rename_i ho
      cases e
      obtain ⟨a1, a2, a3⟩ := ybI_some hi h0 hq
      refine ⟨⟨a1, by omega, ?_⟩, a2⟩
      unfold lfp
      rw [a3]
      exact (oldI_le a1).mp ho
    · cases e
  · cases e
theorem fitI_top {L : List Lf} {t a q : Int} (hL : 0 < L.length) (h : Kp L t q) (h1 : q ≤ t - a) : ∃ p ∈ fitI L t a, q ≤ p := by
  obtain ⟨h2, h3, h4⟩ := h
  obtain ⟨p, hp, hq⟩ := ybI_top hL h2 h1
  refine ⟨p, List.mem_filterMap.mpr ⟨cap (L.length - 1) q, List.mem_range.mpr (by have := cap_le (L.length - 1) q; omega), ?_⟩, hq⟩
  rw [hp]
  simp only
  rw [if_pos ((oldI_le (by omega)).mpr ?_)]
  refine LeL.trans ?_ h4
  show t - p + 1 ≤ t - q + 1
  omega
theorem resI_is {L : List Lf} {t a : Int} (hL : 0 < L.length) (h0 : a ≤ t) (ha : 0 ≤ a) : ResP L t a (resI L t a) := by
  unfold resI
  cases e : maxO (fitI L t a) with
  | none =>
    intro q hq
    apply Int.lt_of_not_ge
    intro z
    obtain ⟨p, hp, _⟩ := fitI_top hL hq z
    rw [maxO_none.mp e] at hp
    cases hp
  | some p =>
    obtain ⟨h1, h2⟩ := maxO_some.mp e
    obtain ⟨h3, h4⟩ := fitI_mem (by omega) ha h1
    refine ⟨h3, h4, fun q hq hqa => ?_⟩
    obtain ⟨p', hp', hl⟩ := fitI_top hL hq hqa
    exact Int.le_trans hl (h2 _ hp')
theorem ResP_short {L : List Lf} (h : 0 < L.length) {t a : Int} {o : Option Int} : ResP (short L) t a o ↔ ResP L t a o := by
  cases o <;> simp only [ResP, Kp_short h]
theorem resI_short {L : List Lf} {t a : Int} (hL : 0 < L.length) (h0 : a ≤ t) (ha : 0 ≤ a) : resI (short L) t a = resI L t a :=
  (resI_is (short_pos hL) h0 ha).uniq ((ResP_short hL).mpr (resI_is hL h0 ha))
theorem resI_eq {L : List Lf} {t a : Int} {o : Option Int} (hL : 0 < L.length) (h0 : a ≤ t) (ha : 0 ≤ a) (h : ResP L t a o) : resI L t a = o := (resI_is hL h0 ha).uniq h
/-- the distance -/
def gapI (L : List Lf) (t a : Int) : Option Int := (resI L t a).map fun p => t - p - a
theorem gapI_short {L : List Lf} {t a : Int} (hL : 0 < L.length) (h0 : a ≤ t) (ha : 0 ≤ a) : gapI (short L) t a = gapI L t a := by unfold gapI; rw [resI_short hL h0 ha]
/-! guarantee (a) -/
section
variable {L : List Lf} {t a : Int} {j : Nat}
theorem lfp_ge (h : Lives L) {p : Int} (hj : j < L.length) (hp : p % 2 ^ j = 0) : LeL (at0 L j) (lfp L p) :=
  h.mono_at (le_cap (by omega) hp) (by have := cap_le (L.length - 1) p; omega)
/-- an index that is enough bounds the distance -/
theorem gap_le (h : Lives L) (hj : j < L.length) (he : en L a j = true) (ht : a ≤ t) (ha : 0 ≤ a) : ∃ d, gapI L t a = some d ∧ 0 ≤ d ∧ d ≤ 2 ^ j - 1 ∧ d ≤ t - a := by
  have hp := pw_pos j
  have h1 := Int.emod_nonneg (t - a) (show (2 : Int) ^ j ≠ 0 by omega)
  have h2 := Int.emod_lt_of_pos (t - a) hp
  have h3 := Int.emod_add_mul_ediv (t - a) (2 ^ j)
  have h4 := emod_le_self (b := 2 ^ j) (show 0 ≤ t - a by omega) hp
  have hk : Kp L t (t - a - (t - a) % 2 ^ j) := by
    refine ⟨by omega, by omega, LeL.trans ?_ ((of_decide_eq_true he).trans (lfp_ge h hj ?_))⟩
    · show t - (t - a - (t - a) % 2 ^ j) + 1 ≤ a + 2 ^ j
      omega
    · rw [show t - a - (t - a) % 2 ^ j = 2 ^ j * ((t - a) / 2 ^ j) by omega]
      exact Int.mul_emod_right _ _
  have hr := resI_is h.ne ht ha
  unfold gapI
  cases e : resI L t a with
  | none =>
    rw [e] at hr
    have := hr _ hk
    omega
  | some p =>
    rw [e] at hr
    obtain ⟨r1, r2, r3⟩ := hr
    have := r3 _ hk (by omega)
    have := r1.1
    exact ⟨t - p - a, rfl, by omega, by omega, by omega⟩
/-- below an index no life of which is enough no point but 0 is kept behind the age -/
theorem kept_zero (hb : ∀ i, i < j → en L a i = false) {q : Int} (hj : j < L.length) (hk : Kp L (a + 2 ^ j - 1) q) (hq : q ≤ 2 ^ j - 1) : q = 0 := by
  obtain ⟨k1, k2, k3⟩ := hk
  apply Int.le_antisymm _ k1
  apply Int.le_of_not_gt
  intro w
  have hp := pw_pos j
  have hi : cap (L.length - 1) q < j := by
    apply Nat.lt_of_not_ge
    intro z
    have h1 := mod_down z (cap_mod (L.length - 1) q)
    rw [Int.emod_eq_of_lt k1 (by omega)] at h1
    omega
  have hn := of_decide_eq_false (hb _ hi)
  apply hn
  refine LeL.trans ?_ k3
  have h1 : (0 : Int) % 2 ^ cap (L.length - 1) q = 0 := by simp
  have h2 : ((2 : Int) ^ j) % 2 ^ cap (L.length - 1) q = 0 := Int.emod_eq_zero_of_dvd (pw_dvd (by omega))
  have := mod_gap (pw_pos _) (cap_mod (L.length - 1) q) h2 (by omega)
  show a + 2 ^ cap (L.length - 1) q ≤ a + 2 ^ j - 1 - q + 1
  omega
/-- at this tick the distance is just the worst one -/
theorem gap_at (h : Lives L) (hj : j < L.length) (he : en L a j = true) (hb : ∀ i, i < j → en L a i = false) (ha : 0 ≤ a) : gapI L (a + 2 ^ j - 1) a = some (2 ^ j - 1) := by
  have hp := pw_pos j
  have h0 : resI L (a + 2 ^ j - 1) a = some 0 := resI_eq h.ne (by omega) ha ⟨⟨Int.le_refl _, by omega, (show LeL (some (a + 2 ^ j - 1 - 0 + 1)) (some (a + 2 ^ j)) by show _ ≤ _; omega).trans ((of_decide_eq_true he).trans (lfp_ge h hj (by simp)))⟩, by omega, fun q hq hl => by
    rw [kept_zero hb hj hq (by omega)]; exact Int.le_refl _⟩
  unfold gapI
  rw [h0]
  show some (a + 2 ^ j - 1 - 0 - a) = _
  congr 1
  omega
/-- ahead of it the distance is less -/
theorem gap_ahead (h : Lives L) (hj : j < L.length) (he : en L a j = true) (ht : a ≤ t) (ha : 0 ≤ a) (hl : t < a + 2 ^ j - 1) : ∃ d, gapI L t a = some d ∧ d < 2 ^ j - 1 := by
  obtain ⟨d, h1, h2, h3, h4⟩ := gap_le h hj he ht ha
  exact ⟨d, h1, by omega⟩
/-- where no life is enough, there is no restore point -/
theorem gap_none (h : Lives L) (hb : ∀ i, i < L.length → en L a i = false) (ha : 0 ≤ a) : gapI L (a + 2 ^ (L.length - 1) - 1) a = none := by
  have hp := pw_pos (L.length - 1)
  have hn := h.ne
  have h0 : resI L (a + 2 ^ (L.length - 1) - 1) a = none := resI_eq h.ne (by omega) ha fun q hq => by
    apply Int.lt_of_not_ge
    intro z
    have hz := kept_zero (fun i hi => hb i (by omega)) (by omega) hq (by omega)
    subst hz
    have h1 := of_decide_eq_false (hb (L.length - 1) (by omega))
    apply h1
    refine LeL.trans ?_ (LeL.trans hq.2.2 ?_)
    · show a + 2 ^ (L.length - 1) ≤ a + 2 ^ (L.length - 1) - 1 - 0 + 1
      omega
    · unfold lfp
      rw [cap_zero]
      exact LeL.refl _
  unfold gapI
  rw [h0]
  rfl
end
/-! behind the greatest life the distances come again -/
theorem cap_shift {m : Nat} {p d : Int} (h : d % 2 ^ m = 0) : cap m (p + d) = cap m p := by
  have key : ∀ i, i ≤ m → ((p + d) % 2 ^ i = 0 ↔ p % 2 ^ i = 0) := fun i hi => by
    obtain ⟨c, hc⟩ := Int.dvd_of_emod_eq_zero (mod_down hi h)
    rw [hc, Int.add_mul_emod_self_left]
  apply Nat.le_antisymm
  · exact le_cap (cap_le _ _) ((key _ (cap_le _ _)).mp (cap_mod _ _))
  · exact le_cap (cap_le _ _) ((key _ (cap_le _ _)).mpr (cap_mod _ _))
theorem gapI_shift {L : List Lf} {t a d : Int} (hL : 0 < L.length) (h0 : a ≤ t) (ha : 0 ≤ a) (hd : 0 ≤ d) (hm : d % 2 ^ (L.length - 1) = 0) (hb : ∀ p, ∃ n : Int, lfp L p = some n ∧ n ≤ t) : gapI L (t + d) a = gapI L t a := by
  have hk : ∀ p, Kp L (t + d) (p + d) ↔ Kp L t p := fun p => by
    have hc : lfp L (p + d) = lfp L p := by unfold lfp; rw [cap_shift hm]
    obtain ⟨n, hn, hn2⟩ := hb p
    unfold Kp
    rw [hc, hn]
    show 0 ≤ p + d ∧ p + d ≤ t + d ∧ t + d - (p + d) + 1 ≤ n ↔ 0 ≤ p ∧ p ≤ t ∧ t - p + 1 ≤ n
    omega
  have hr := resI_is hL h0 ha
  have hs : resI L (t + d) a = (resI L t a).map (· + d) := by
    refine resI_eq hL (by omega) ha ?_
    cases e : resI L t a with
    | none =>
      rw [e] at hr
      intro q hq
      have := hr (q - d) ((hk (q - d)).mp (by rw [Int.sub_add_cancel]; exact hq))
      omega
    | some p =>
      rw [e] at hr
      obtain ⟨r1, r2, r3⟩ := hr
      refine ⟨(hk p).mpr r1, by show p + d ≤ t + d - a; omega, fun q hq hl => ?_⟩
      have := r3 (q - d) ((hk (q - d)).mp (by rw [Int.sub_add_cancel]; exact hq)) (by omega)
      show q ≤ p + d
      omega
  unfold gapI
  rw [hs]
  cases resI L t a with
  | none => rfl
  | some p =>
    show some (t + d - (p + d) - a) = some (t - p - a)
    congr 1
    omega

end LW
namespace LW
/-! Cc: counts of kept points: plain -/
def one (b : Bool) : Int := if b = true then 1 else 0
theorem one_nn (b : Bool) : 0 ≤ one b := by cases b <;> decide
theorem up_ind {lo : Int} {M : Int → Prop} (h0 : M (lo - 1)) (hs : ∀ hi, lo ≤ hi → M (hi - 1) → M hi) (hi : Int) (h : lo - 1 ≤ hi) : M hi := by
  have key : ∀ k : Nat, M (lo - 1 + k) := fun k => by
    induction k with
    | zero => simpa using h0
    | succ k ih => exact hs _ (by omega) (by rw [show lo - 1 + ((k + 1 : Nat) : Int) - 1 = lo - 1 + k by omega]; exact ih)
  have := key (hi - (lo - 1)).toNat
  rwa [show lo - 1 + ((hi - (lo - 1)).toNat : Int) = hi by omega] at this
/-- how many numbers of a range are so -/
def cnt (P : Int → Bool) (lo hi : Int) : Int := sumTo (fun i => one (P (lo + i))) (hi - lo + 1).toNat
section
variable {P Q : Int → Bool} {lo hi : Int}
theorem cnt_empty (h : hi < lo) : cnt P lo hi = 0 := by
  unfold cnt
  rw [show (hi - lo + 1).toNat = 0 by omega]
  rfl
theorem cnt_step (h : lo ≤ hi) : cnt P lo hi = cnt P lo (hi - 1) + one (P hi) := by
  unfold cnt
  rw [show (hi - lo + 1).toNat = (hi - 1 - lo + 1).toNat + 1 by omega, sumTo, show lo + ((hi - 1 - lo + 1).toNat : Int) = hi by omega]
theorem cnt_congr (h : ∀ p, lo ≤ p → p ≤ hi → P p = Q p) : cnt P lo hi = cnt Q lo hi := by
  unfold cnt
  exact sumTo_congr fun i hi => by rw [h _ (by omega) (by omega)]
theorem cnt_nn : 0 ≤ cnt P lo hi := by
  unfold cnt
  generalize (hi - lo + 1).toNat = n
  induction n with
  | zero => exact Int.le_refl _
  | succ n ih => rw [sumTo]; have := one_nn (P (lo + n)); omega
theorem cnt_split {m : Int} (h0 : lo - 1 ≤ m) (h1 : m ≤ hi) : cnt P lo hi = cnt P lo m + cnt P (m + 1) hi := by
  refine up_ind (lo := m + 1) (M := fun hi => cnt P lo hi = cnt P lo m + cnt P (m + 1) hi) ?_ (fun hi h ih => ?_) hi (by omega)
  · show cnt P lo (m + 1 - 1) = cnt P lo m + cnt P (m + 1) (m + 1 - 1)
    rw [cnt_empty (lo := m + 1) (by omega), show m + 1 - 1 = m by omega]
    omega
  · show cnt P lo hi = cnt P lo m + cnt P (m + 1) hi
    have ih : cnt P lo (hi - 1) = cnt P lo m + cnt P (m + 1) (hi - 1) := ih
    rw [cnt_step (lo := lo) (by omega), cnt_step (lo := m + 1) h]
    omega
theorem cnt_pos {p : Int} (h0 : lo ≤ p) (h1 : p ≤ hi) (h : P p = true) : 0 < cnt P lo hi := by
  rw [cnt_split (m := p) (by omega) h1, cnt_step h0, h]
  have := cnt_nn (P := P) (lo := lo) (hi := p - 1)
  have := cnt_nn (P := P) (lo := p + 1) (hi := hi)
  show 0 < _ + 1 + _
  omega
theorem cnt_zero (h : ∀ p, lo ≤ p → p ≤ hi → P p = false) : cnt P lo hi = 0 := by
  rw [cnt_congr (Q := fun _ => false) h]
  unfold cnt
  generalize (hi - lo + 1).toNat = n
  induction n with
  | zero => rfl
  | succ n ih => rw [sumTo, ih]; rfl
theorem cnt_zero_iff : cnt P lo hi = 0 ↔ ∀ p, lo ≤ p → p ≤ hi → P p = false := by
  refine ⟨fun h p h0 h1 => ?_, cnt_zero⟩
  cases e : P p with
  | false => rfl
  | true => have := cnt_pos h0 h1 e; omega
theorem sumTo_cnt {R : Nat → Int → Bool} {n : Nat} (h : ∀ p, lo ≤ p → p ≤ hi → one (P p) = sumTo (fun i => one (R i p)) n) : cnt P lo hi = sumTo (fun i => cnt (R i) lo hi) n := by
  by_cases q : lo - 1 ≤ hi
  · refine up_ind (lo := lo) (M := fun h' => h' ≤ hi → cnt P lo h' = sumTo (fun i => cnt (R i) lo h') n) (fun _ => ?_) (fun h' hl ih hh => ?_) hi q (Int.le_refl _)
    · rw [cnt_empty (by omega)]
      rw [sumTo_congr (h := fun _ => 0) fun i _ => cnt_empty (by omega)]
      clear h
      induction n with
      | zero => rfl
      | succ n ih => rw [sumTo, ← ih]; rfl
    · rw [cnt_step hl, ih (by omega), h h' hl hh, ← sumTo_add]
      exact sumTo_congr fun i _ => (cnt_step hl).symm
  · rw [cnt_empty (by omega), sumTo_congr (h := fun _ => 0) fun i _ => cnt_empty (by omega)]
    clear h
    induction n with
    | zero => rfl
    | succ n ih => rw [sumTo, ← ih]; rfl
theorem cnt_within {a b : Int} : cnt (fun p => P p && decide (a ≤ p ∧ p ≤ b)) lo hi = cnt P (max lo a) (min hi b) := by
  by_cases q : lo - 1 ≤ hi
  · refine up_ind (lo := lo) (M := fun hi => cnt (fun p => P p && decide (a ≤ p ∧ p ≤ b)) lo hi = cnt P (max lo a) (min hi b)) ?_ (fun hi h ih => ?_) hi q
    · show cnt _ lo (lo - 1) = cnt P (max lo a) (min (lo - 1) b)
      rw [cnt_empty (by omega), cnt_empty (by omega)]
    · show cnt _ lo hi = cnt P (max lo a) (min hi b)
      have ih : cnt (fun p => P p && decide (a ≤ p ∧ p ≤ b)) lo (hi - 1) = cnt P (max lo a) (min (hi - 1) b) := ih
      rw [cnt_step h, ih]
      by_cases q1 : hi ≤ b
      · rw [show min (hi - 1) b = hi - 1 by omega, show min hi b = hi by omega]
        by_cases q2 : a ≤ hi
        · rw [cnt_step (lo := max lo a) (hi := hi) (by omega), decide_eq_true ⟨q2, q1⟩, Bool.and_true]
        · rw [cnt_empty (hi := hi - 1) (by omega), cnt_empty (hi := hi) (by omega), decide_eq_false fun z => q2 z.1, Bool.and_false]; rfl
      · rw [show min (hi - 1) b = b by omega, show min hi b = b by omega, decide_eq_false fun z => q1 z.2, Bool.and_false]
        exact Int.add_zero _
  · rw [cnt_empty (by omega), cnt_empty (by omega)]
/-- a count by a formula -/
theorem cnt_form {F : Int → Int} (hF : ∀ x, lo ≤ x → F x = F (x - 1) + one (P x)) (h : lo - 1 ≤ hi) : cnt P lo hi = F hi - F (lo - 1) := by
  refine up_ind (lo := lo) (M := fun hi => cnt P lo hi = F hi - F (lo - 1)) ?_ (fun hi h ih => ?_) hi h
  · show cnt P lo (lo - 1) = F (lo - 1) - F (lo - 1)
    rw [cnt_empty (by omega)]
    omega
  · show cnt P lo hi = F hi - F (lo - 1)
    have ih : cnt P lo (hi - 1) = F (hi - 1) - F (lo - 1) := ih
    rw [cnt_step h, ih, hF hi h]
    omega
end
theorem div_step {s x : Int} (hs : 0 < s) : x / s = (x - 1) / s + one (decide (x % s = 0)) := by
  have h1 := Int.emod_add_mul_ediv x s
  have h2 := Int.emod_nonneg x (show s ≠ 0 by omega)
  have h3 := Int.emod_lt_of_pos x hs
  by_cases q : x % s = 0
  · rw [decide_eq_true q]
    show x / s = (x - 1) / s + 1
    have e : (x - 1) / s = x / s - 1 := by
      have w : x - 1 = (s - 1) + s * (x / s - 1) := by rw [Int.mul_sub, Int.mul_one]; omega
      have w2 : ((s - 1) + s * (x / s - 1)) / s = x / s - 1 := by
        rw [Int.add_mul_ediv_left (s - 1) (x / s - 1) (show s ≠ 0 by omega), Int.ediv_eq_zero_of_lt (show 0 ≤ s - 1 by omega) (show s - 1 < s by omega)]
        omega
      rw [w2.symm, ← w]
    omega
  · rw [decide_eq_false q]
    show x / s = (x - 1) / s + 0
    have e : (x - 1) / s = x / s := by
      have w : x - 1 = (x % s - 1) + s * (x / s) := by omega
      have w2 : ((x % s - 1) + s * (x / s)) / s = x / s := by
        rw [Int.add_mul_ediv_left (x % s - 1) (x / s) (show s ≠ 0 by omega), Int.ediv_eq_zero_of_lt (show 0 ≤ x % s - 1 by omega) (show x % s - 1 < s by omega)]
        omega
      rw [w2.symm, ← w]
    omega
theorem div_mono {a b s : Int} (hs : 0 < s) (h : a ≤ b) : a / s ≤ b / s := Int.ediv_le_ediv hs h
/-- multiples of a size -/
def mulP (s : Int) (p : Int) : Bool := decide (p % s = 0)
/-- points of just a rank -/
def rnkP (i : Nat) (p : Int) : Bool := decide (p % (2 * 2 ^ i) = 2 ^ i)
theorem cnt_mul {s lo hi : Int} (hs : 0 < s) : cnt (mulP s) lo hi = max 0 (hi / s - (lo - 1) / s) := by
  by_cases h : lo - 1 ≤ hi
  · have e := cnt_form (F := fun x => x / s) (P := mulP s) (lo := lo) (fun x _ => div_step hs) h
    have := cnt_nn (P := mulP s) (lo := lo) (hi := hi)
    have e : cnt (mulP s) lo hi = hi / s - (lo - 1) / s := e
    omega
  · rw [cnt_empty (by omega)]
    have := div_mono hs (show hi ≤ lo - 1 by omega)
    omega
def upI (x : Int) (i : Nat) : Int := if 0 < x then (x + 2 ^ i) / (2 * 2 ^ i) else 0
theorem rnk_step {i : Nat} {x : Int} (h : 0 ≤ x) : upI x i = upI (x - 1) i + one (rnkP i x) := by
  have hp := pw_pos i
  have h1 := Int.emod_add_mul_ediv x (2 * 2 ^ i)
  have h2 := Int.emod_nonneg x (show (2 * 2 ^ i : Int) ≠ 0 by omega)
  have h3 := Int.emod_lt_of_pos x (show (0 : Int) < 2 * 2 ^ i by omega)
  have key : (x + 2 ^ i) / (2 * 2 ^ i) = (x - 1 + 2 ^ i) / (2 * 2 ^ i) + one (rnkP i x) := by
    have e := div_step (s := 2 * 2 ^ i) (x := x + 2 ^ i) (by omega)
    rw [show x + 2 ^ i - 1 = x - 1 + 2 ^ i by omega] at e
    rw [e]
    congr 2
    unfold rnkP
    refine decide_eq_decide.mpr ⟨fun z => ?_, fun z => ?_⟩
    · have w : x = -(2 ^ i) + (x + 2 ^ i) := by omega
      rw [w, Int.add_emod, z, Int.add_zero, Int.emod_emod, show -(2 ^ i : Int) = 2 ^ i + (2 * 2 ^ i) * (-1) by omega, Int.add_mul_emod_self_left]
      exact Int.emod_eq_of_lt (by omega) (by omega)
    · rw [Int.add_emod, z, Int.emod_eq_of_lt (a := 2 ^ i) (by omega) (by omega), show (2 ^ i + 2 ^ i : Int) = 2 * 2 ^ i by omega, Int.emod_self]
  unfold upI
  by_cases q : 0 < x
  · rw [if_pos q]
    by_cases w : 0 < x - 1
    · rw [if_pos w]; exact key
    · rw [if_neg w]
      have : x = 1 := by omega
      subst this
      rw [key, show (1 : Int) - 1 + 2 ^ i = 2 ^ i by omega, Int.ediv_eq_zero_of_lt (by omega) (by omega)]
  · rw [if_neg q, if_neg (by omega)]
    have : x = 0 := by omega
    subst this
    unfold rnkP
    rw [decide_eq_false (by rw [Int.zero_emod]; omega)]
    rfl
theorem cnt_rnk {i : Nat} {lo hi : Int} (h0 : 0 ≤ lo) : cnt (rnkP i) lo hi = max 0 (upI hi i - upI (lo - 1) i) := by
  have hp := pw_pos i
  by_cases h : lo - 1 ≤ hi
  · have e := cnt_form (F := fun x => upI x i) (P := rnkP i) (lo := lo) (fun x hx => rnk_step (by omega)) h
    have := cnt_nn (P := rnkP i) (lo := lo) (hi := hi)
    have e : cnt (rnkP i) lo hi = upI hi i - upI (lo - 1) i := e
    omega
  · rw [cnt_empty (by omega)]
    have : upI hi i ≤ upI (lo - 1) i := by
      unfold upI
      have h1 : 0 < lo - 1 → 0 ≤ (lo - 1 + 2 ^ i) / (2 * 2 ^ i) := fun z => Int.ediv_nonneg (by omega) (by omega)
      by_cases q : 0 < hi
      · rw [if_pos q, if_pos (by omega)]
        exact div_mono (by omega) (by omega)
      · rw [if_neg q]
        split
        · exact h1 (by assumption)
        · exact Int.le_refl _
    omega
theorem rnk_sub {i : Nat} {lo hi : Int} : cnt (mulP (2 ^ i)) lo hi - cnt (mulP (2 * 2 ^ i)) lo hi = cnt (rnkP i) lo hi := by
  have : cnt (mulP (2 ^ i)) lo hi = cnt (rnkP i) lo hi + cnt (mulP (2 * 2 ^ i)) lo hi := by
    by_cases h : lo - 1 ≤ hi
    · refine up_ind (lo := lo) (M := fun hi => cnt (mulP (2 ^ i)) lo hi = cnt (rnkP i) lo hi + cnt (mulP (2 * 2 ^ i)) lo hi) ?_ (fun hi h ih => ?_) hi h
      · show cnt _ lo (lo - 1) = cnt _ lo (lo - 1) + cnt _ lo (lo - 1)
        rw [cnt_empty (by omega), cnt_empty (by omega), cnt_empty (by omega)]; rfl
      · show cnt (mulP (2 ^ i)) lo hi = cnt (rnkP i) lo hi + cnt (mulP (2 * 2 ^ i)) lo hi
        have ih : cnt (mulP (2 ^ i)) lo (hi - 1) = cnt (rnkP i) lo (hi - 1) + cnt (mulP (2 * 2 ^ i)) lo (hi - 1) := ih
        rw [cnt_step h, cnt_step h, cnt_step h, ih]
        have e : one (mulP (2 ^ i) hi) = one (rnkP i hi) + one (mulP (2 * 2 ^ i) hi) := by
          have hp := pw_pos i
          have w := odd_mod (p := hi) hp
          unfold mulP rnkP
          by_cases q1 : hi % 2 ^ i = 0
          · by_cases q2 : hi % (2 * 2 ^ i) = 0
            · rw [decide_eq_true q1, decide_eq_true q2, decide_eq_false fun z => by omega]; rfl
            · rw [decide_eq_true q1, decide_eq_false q2, decide_eq_true (w.mp ⟨q1, q2⟩)]; rfl
          · rw [decide_eq_false q1, decide_eq_false fun z => q1 (w.mpr z).1, decide_eq_false fun z => q1 (by rw [← pw_succ] at z; exact mod_down (Nat.le_succ i) z)]; rfl
        omega
    · rw [cnt_empty (by omega), cnt_empty (by omega), cnt_empty (by omega)]; rfl
  omega
/-- how many kept points a range has -/
def cntK (L : List Lf) (t lo hi : Int) : Int := cnt (fun p => decide (Kp L t p)) lo hi
theorem cntK_short {L : List Lf} (h : 0 < L.length) {t lo hi : Int} : cntK (short L) t lo hi = cntK L t lo hi := cnt_congr fun p _ _ => decide_eq_decide.mpr (Kp_short h)
def clsP (n i : Nat) (p : Int) : Bool := if i + 1 = n then mulP (2 ^ i) p else rnkP i p
theorem clsP_iff {n i : Nat} {p : Int} (hi : i < n) : clsP n i p = true ↔ cap (n - 1) p = i := by
  unfold clsP
  split
  · rename_i q
    have : i = n - 1 := by omega
    subst this
    rw [cap_last]
    unfold mulP
    exact decide_eq_true_iff
  · rw [cap_rank (by omega)]
    unfold rnkP
    exact decide_eq_true_iff
theorem sumTo_one {f : Nat → Int} {n k : Nat} (hk : k < n) (h : ∀ i, i < n → i ≠ k → f i = 0) : sumTo f n = f k := by
  induction n with
  | zero => omega
  | succ n ih =>
    rw [sumTo]
    by_cases q : k = n
    · subst q
      have : ∀ m, m ≤ k → sumTo f m = 0 := fun m hm => by
        induction m with
        | zero => rfl
        | succ m ih2 => rw [sumTo, ih2 (by omega), h m (by omega) (by omega)]; rfl
      rw [this k (Nat.le_refl _)]
      omega
    · rw [ih (by omega) fun i hi => h i (by omega), h n (by omega) (fun z => q z.symm)]
      omega
/-- by the indices -/
theorem cntK_sum {L : List Lf} (hL : 0 < L.length) {t lo hi : Int} (h0 : 0 ≤ lo) : cntK L t lo hi = sumTo (fun i => cnt (clsP L.length i) (max lo (oldI L t i)) (min hi t)) L.length := by
  unfold cntK
  rw [sumTo_cnt (R := fun i p => clsP L.length i p && decide (oldI L t i ≤ p ∧ p ≤ t)) (n := L.length) fun p hp _ => ?_]
  · exact sumTo_congr fun i _ => cnt_within
  · have hc := cap_le (L.length - 1) p
    rw [sumTo_one (k := cap (L.length - 1) p) (by omega) fun i hn hi => ?_]
    · rw [(clsP_iff (by omega)).mpr rfl, Bool.true_and]
      congr 1
      refine decide_eq_decide.mpr ?_
      rw [oldI_le (by omega)]
      exact ⟨fun h => ⟨h.2.2, h.2.1⟩, fun h => ⟨by omega, h.2, h.1⟩⟩
    · rw [show clsP L.length i p = false by
        rw [Bool.eq_false_iff]
        intro z
        exact hi ((clsP_iff hn).mp z).symm, Bool.false_and]
      rfl
theorem cnt_le {P : Int → Bool} {lo hi : Int} : cnt P lo hi ≤ max 0 (hi - lo + 1) := by
  unfold cnt
  have : ∀ n : Nat, sumTo (fun i => one (P (lo + i))) n ≤ n := fun n => by
    induction n with
    | zero => exact Int.le_refl _
    | succ n ih =>
      rw [sumTo]
      have : one (P (lo + (n : Nat))) ≤ 1 := by cases P (lo + (n : Nat)) <;> decide
      omega
  have := this (hi - lo + 1).toNat
  omega
theorem cntK_bd {L : List Lf} {t lo hi : Int} : 0 ≤ cntK L t lo hi ∧ cntK L t lo hi ≤ max 0 (hi - lo + 1) := ⟨cnt_nn, cnt_le⟩
theorem cntK_split {L : List Lf} {t lo hi m : Int} (h0 : lo - 1 ≤ m) (h1 : m ≤ hi) : cntK L t lo hi = cntK L t lo m + cntK L t (m + 1) hi := cnt_split h0 h1
theorem cntK_above {L : List Lf} {t lo hi : Int} (h : t < lo) : cntK L t lo hi = 0 := cnt_zero fun p hp _ => decide_eq_false fun z => by have := z.2.1; omega

end LW
namespace LW
open PySem L2 Ev
local macro_rules | `(tactic| walk_at "lvs") => `(tactic| fail)
local macro_rules | `(tactic| walk_at "call") => `(tactic| fail)
local macro_rules | `(tactic| walk_at "ex") => `(tactic| fail)
local macro_rules | `(tactic| walk_at "rul") => `(tactic| fail)
local macro_rules | `(tactic| walk_at "rp") => `(tactic| fail)
local macro_rules | `(tactic| walk_at "ints") => `(tactic| fail)
local macro_rules | `(tactic| walk_at "side") => `(tactic| fail)
local macro_rules | `(tactic| walk_at "om") => `(tactic| first | omega | ((try simp only [List.length_cons, List.length_nil, List.length_map, List.length_append, List.length_replicate, List.length_take, List.length_drop, List.length_zip, List.length_range, Ev.rngL_length, Int.toNat_natCast]); omega))
local macro_rules | `(tactic| walk_at "wq") => `(tactic| (walk_at "wp") <;> (try first | with_unfolding_all rfl | (exfalso; omega)))
local macro_rules | `(tactic| walk_at "dec") => `(tactic| (apply congrArg; first | exact (decide_eq_true (by omega)).symm | exact (decide_eq_false (by omega)).symm))
local macro_rules | `(tactic| walk_at "w1") => `(tactic| (first
  | (with_reducible refine Ev.isWRD ?_; (first
    | with_reducible refine Ev.wp_var (by with_unfolding_all rfl) ?_
    | with_reducible refine Ev.wp_con ?_
    | (with_reducible refine Ev.isOp ?_; (first
        | with_reducible refine Ev.wp_add ?_
        | with_reducible refine Ev.wp_sub ?_
        | with_reducible refine Ev.wp_mul2 ?_
        | with_reducible refine Ev.wp_mod ?_
        | with_reducible refine Ev.wp_fdiv ?_
        | with_reducible refine Ev.wp_pow ?_
        | with_reducible refine Ev.wp_shl ?_
        | with_reducible refine Ev.wp_shr ?_
        | with_reducible refine Ev.wp_and_ ?_
        | with_reducible refine Ev.wp_ltV ?_
        | with_reducible refine Ev.wp_leV ?_
        | with_reducible refine Ev.wp_gtV ?_
        | with_reducible refine Ev.wp_geV ?_
        | with_reducible refine Ev.wp_eqV ?_
        | with_reducible refine Ev.wp_neV ?_
        | with_reducible refine Ev.wp_isNV ?_
        | with_reducible refine Ev.wp_notNV ?_
        | with_reducible refine Ev.wp_op ?_))
    | with_reducible refine Ev.wp_call ?_
    | with_reducible refine Ev.wp_tup ?_
    | with_reducible refine Ev.wp_seeV (by with_unfolding_all rfl) ?_
    | with_reducible refine Ev.wp_seeO (by with_unfolding_all rfl) ?_
    | (with_reducible refine Ev.isUn ?_; (first
        | with_reducible refine Ev.wp_cob ?_
        | with_reducible refine Ev.wp_neg ?_
        | with_reducible refine Ev.wp_bits ?_
        | with_reducible refine Ev.wp_isi ?_
        | with_reducible refine Ev.wp_fld ?_
        | with_reducible refine Ev.wp_isiRu ?_))
    | with_reducible refine Ev.wp_new ?_
    | with_reducible refine Ev.wp_sameM ?_
    | with_reducible refine Ev.wp_mth ?_
    | with_reducible refine Ev.wp_prp ?_
    | with_reducible refine Ev.wp_mkC ?_
    | with_reducible refine Ev.wp_mkK ?_
    | with_reducible refine Ev.wp_dnew ?_
    | with_reducible refine Ev.wp_done ?_
    | with_reducible refine Ev.wp_callD ?_
    | with_reducible refine Ev.wp_ifV ?_
    | with_reducible refine Ev.wp_andV ?_
    | with_reducible refine Ev.wp_orV ?_
    | with_reducible refine Ev.wp_notV ?_
    | with_reducible refine Ev.wp_val ?_
    | with_reducible refine Ev.wp_sl ?_
    | with_reducible refine Ev.wp_sm ?_
    | with_reducible refine Ev.wp_cm ?_
    | with_reducible refine Ev.wp_mk ?_
    | with_reducible refine Ev.wp_mkStar ?_
    | with_reducible refine Ev.wp_two ?_
    | with_reducible refine Ev.wp_ruLen ?_
    | with_reducible refine Ev.wp_ruCall ?_
    | with_reducible refine Ev.wp_idx ?_
    | with_reducible refine Ev.wp_kRuI (by first | assumption | decide | omega) ?_
    | with_reducible refine Ev.wp_kRu (by first | assumption | decide | omega) (by first | assumption | decide | omega) ?_
    | with_reducible refine Ev.wp_kRuX (by first | assumption | decide | omega) ?_
    | with_reducible refine Ev.wp_star1 (by walk_at "om") ?_
    | with_reducible refine Ev.wp_chLL ?_
    | with_reducible refine Ev.wp_ch ?_
    | walk_at "call"
    | with_reducible refine Ev.wp_blt ?_))
  | (with_reducible refine Ev.isWS ?_; (first
    | with_reducible refine Ev.wp_seq ?_
    | with_reducible refine Ev.wp_ret ?_
    | with_reducible refine Ev.wp_retN ?_
    | with_reducible refine Ev.wp_retCell ?_
    | with_reducible refine Ev.wp_ifS ?_
    | with_reducible refine Ev.wp_expr ?_
    | with_reducible refine Ev.wp_skip ?_
    | with_reducible refine Ev.wp_break ?_
    | with_reducible refine Ev.wp_cont ?_
    | with_reducible refine Ev.wp_own ?_
    | with_reducible refine Ev.wp_par ?_
    | with_reducible refine Ev.wp_par3 ?_
    | with_reducible refine Ev.wp_par3F ?_
    | with_reducible refine Ev.wp_parF ?_
    | with_reducible refine Ev.wp_parG ?_
    | with_reducible refine Ev.wp_forS ?_
    | with_reducible refine Ev.wp_parFF ?_
    | with_reducible refine Ev.wp_asgTF ?_
    | with_reducible refine Ev.wp_augI (by with_unfolding_all rfl) ?_
    | with_reducible refine Ev.wp_appC ?_
    | with_reducible refine Ev.wp_sameS ?_
    | with_reducible refine Ev.wp_setOb (by with_unfolding_all rfl) ?_
    | with_reducible refine Ev.wp_dput ?_
    | with_reducible refine Ev.wp_lckS (by with_unfolding_all rfl) ?_
    | with_reducible refine Ev.wp_asgN (by with_unfolding_all rfl) ?_
    | with_reducible refine Ev.wp_asg ?_
    | with_reducible refine Ev.wp_retOwn (by with_unfolding_all rfl) ?_
    | with_reducible refine Ev.wp_retOwnV (by with_unfolding_all rfl) ?_
    | with_reducible refine Ev.wp_frz (by with_unfolding_all rfl) ?_
    | with_reducible refine Ev.wp_frzV (by with_unfolding_all rfl) ?_
    | with_reducible refine Ev.wp_popT (by with_unfolding_all rfl) (by with_unfolding_all rfl) (by with_unfolding_all rfl) ?_
    | with_reducible refine Ev.wp_append (by with_unfolding_all rfl) ?_
    | with_reducible refine Ev.wp_aug (by with_unfolding_all rfl) ?_
    | with_reducible refine Ev.wp_setC (by with_unfolding_all rfl) ?_
    | with_reducible refine Ev.wp_setO (by with_unfolding_all rfl) ?_))
  | (with_reducible refine Ev.isWRL ?_; (first
    | with_reducible refine Ev.wp_genM ?_
    | with_reducible refine Ev.wp_addF ?_
    | with_reducible refine Ev.wp_lstC ?_
    | with_reducible refine Ev.wp_star ?_
    | with_reducible refine Ev.wp_genI ?_
    | with_reducible refine Ev.wp_lck (by with_unfolding_all rfl) ?_
    | with_reducible refine Ev.wp_items (by with_unfolding_all rfl) ?_
    | with_reducible refine Ev.wp_nil ?_
    | with_reducible refine Ev.wp_cons ?_
    | with_reducible refine Ev.wp_fit ?_
    | with_reducible refine Ev.wp_lc ?_
    | with_reducible refine Ev.wp_rng1 ?_
    | with_reducible refine Ev.wp_rng2 ?_
    | with_reducible refine Ev.wp_seqIt ?_
    | with_reducible refine Ev.wp_zipIt ?_
    | with_reducible refine Ev.wp_enum ?_
    | with_reducible refine Ev.wp_rng3 ?_
    | with_reducible refine Ev.wp_srt ?_
    | with_reducible refine Ev.wp_lrg ?_
    | walk_at "call"))
  | (with_reducible refine Ev.isWRB ?_; (first
    | (with_reducible refine Ev.isBop ?_; (first
        | with_reducible refine Ev.wp_lt ?_
        | with_reducible refine Ev.wp_le ?_
        | with_reducible refine Ev.wp_gt ?_
        | with_reducible refine Ev.wp_ge ?_
        | with_reducible refine Ev.wp_isN ?_
        | with_reducible refine Ev.wp_notN ?_
        | with_reducible refine Ev.wp_eq ?_
        | with_reducible refine Ev.wp_ne ?_))
    | (with_reducible refine Ev.isBun ?_; with_reducible refine Ev.wp_isiB ?_)
    | with_reducible refine Ev.wp_sameB ?_
    | with_reducible refine Ev.wp_andB ?_
    | with_reducible refine Ev.wp_orB ?_
    | with_reducible refine Ev.wp_notB ?_
    | with_reducible refine Ev.wp_yes ?_
    | walk_at "call"
    | with_reducible refine Ev.wp_bool ?_))
  | (with_reducible refine Ev.isWRO ?_; (first
    | with_reducible refine Ev.wp_noP ?_
    | with_reducible refine Ev.wp_atP ?_))
  | (with_reducible refine Ev.isBr ?_; (first
    | walk_at "ex"
    | with_reducible refine Ev.Br.yes (by first | assumption | (with_reducible exact Eq.refl _) | (with_unfolding_all (intro h; cases h; done)) | omega) ?_
    | with_reducible refine Ev.Br.no (by first | assumption | (with_unfolding_all (intro h; cases h; done)) | (with_unfolding_all (intro h; exact h rfl)) | omega) ?_
    | with_reducible refine Ev.Br.mk (fun _ => ?_) (fun _ => ?_)))
  | (with_reducible refine Ev.isEx ?_; (first
    | walk_at "ex"
    | with_reducible refine Exists.intro _ (Exists.intro _ (And.intro rfl (And.intro (by assumption : (_ : Option Ev.Cell) = some (Ev.Cell.lst _)) ?_)))
    | with_reducible refine Exists.intro _ (And.intro (by assumption : (_ : Option Ev.Cell) = some (Ev.Cell.lst _)) ?_)
    | with_reducible refine Exists.intro _ (Exists.intro _ (And.intro rfl (And.intro (by assumption : (_ : Option Ev.Cell) = some (Ev.Cell.ob _ _)) ?_)))
    | with_reducible refine Exists.intro _ (by assumption : (_ : Option Ev.Cell) = some (Ev.Cell.ob _ _))
    | with_reducible refine Exists.intro _ (And.intro (Ev.isiRu_ob (by first | assumption | decide | omega)) ?_)
    | with_reducible refine Exists.intro _ (And.intro (Ev.all_rep _ _) ?_)
    | with_reducible refine Exists.intro _ (Exists.intro _ (And.intro (by with_unfolding_all rfl) (And.intro (by with_reducible first | exact Ev.kit_NoneType_int | exact Ev.kit_NoneType_bool | exact Ev.kit_NoneType_tuple | exact Ev.kit_NoneType_str | exact Ev.kit_NoneType_list | exact Ev.kit_bool_int | exact Ev.kit_bool_bool | exact Ev.kit_bool_tuple | exact Ev.kit_bool_str | exact Ev.kit_bool_list | exact Ev.kit_int_int | exact Ev.kit_int_bool | exact Ev.kit_int_tuple | exact Ev.kit_int_str | exact Ev.kit_int_list | exact Ev.kit_str_int | exact Ev.kit_str_bool | exact Ev.kit_str_tuple | exact Ev.kit_str_str | exact Ev.kit_str_list | exact Ev.kit_tuple_int | exact Ev.kit_tuple_bool | exact Ev.kit_tuple_tuple | exact Ev.kit_tuple_str | exact Ev.kit_tuple_list | exact Ev.kit_list_int | exact Ev.kit_list_bool | exact Ev.kit_list_tuple | exact Ev.kit_list_str | exact Ev.kit_list_list) ?_)))
    | with_reducible refine Exists.intro _ (Exists.intro _ (And.intro rfl (And.intro rfl ?_)))
    | with_reducible refine Exists.intro _ (And.intro rfl ?_)
    | with_reducible refine Exists.intro _ (And.intro (Ev.ixG (by first | assumption | exact Ev.cset_get (by assumption) | exact Ev.cset_get (Ev.cset_get (by assumption))) (by with_unfolding_all rfl)) ?_)
    | with_reducible refine Exists.intro _ (Exists.intro _ (Exists.intro _ (And.intro rfl (And.intro (by first | assumption | exact Ev.cset_get (by assumption) | exact Ev.cset_get (Ev.cset_get (by assumption))) (And.intro (by with_unfolding_all rfl) ?_)))))
    | with_reducible refine Exists.intro _ (And.intro (by with_unfolding_all rfl) ?_)))
  | (with_reducible refine Ev.isAnd ?_; (first
    | with_reducible refine And.intro (Ev.isRu_ob (by first | assumption | decide | omega)) ?_
    | with_reducible refine And.intro (by walk_at "om") ?_
    | with_reducible refine And.intro rfl ?_
    | walk_at "ex"))
  | (with_reducible refine Ev.isIte ?_; (first
    | with_reducible refine Ev.ite_t ?_
    | with_reducible refine Ev.ite_f ?_
    | with_reducible refine Ev.ite_nt ?_
    | with_reducible refine Ev.ite_nf ?_
    | with_reducible refine Ev.ite_yes (by first | assumption | omega) ?_
    | with_reducible refine Ev.ite_no (by first | assumption | omega) ?_
    | with_reducible refine Ev.ite_nyes (by first | assumption | omega) ?_
    | with_reducible refine Ev.ite_nno (by first | assumption | omega) ?_
    | with_reducible refine Ev.ite_dec (fun _ => ?_) (fun _ => ?_)
    | with_reducible refine Ev.ite_ndec (fun _ => ?_) (fun _ => ?_)))
  | (with_reducible refine Ev.isEq2 ?_; (first
    | with_reducible refine Ev.eq2_int ?_
    | with_reducible refine Ev.eq2_str ?_
    | walk_at "ex"))
  | (with_reducible refine Ev.isAdd2 ?_; (first
    | walk_at "ex"
    | with_reducible refine Ev.add2_int ?_
    | with_reducible refine Ev.add2_tup (by walk_at "om") ?_
    | with_reducible refine Ev.add2_lst (by walk_at "om") ?_))
  | (with_reducible refine Ev.isMul2 ?_; (first
    | walk_at "ex"
    | with_reducible refine Ev.mul2_int ?_))
  | (with_reducible refine Ev.isEq ?_; with_reducible exact Eq.refl _)
  | (with_reducible refine Ev.isOr ?_; (first
    | with_reducible refine Or.inl (Exists.intro _ (And.intro rfl ?_))
    | with_reducible refine Or.inr (Exists.intro _ (And.intro rfl ?_))
    | with_reducible refine Or.inl (Exists.intro _ (Exists.intro _ (And.intro rfl ?_)))
    | with_reducible refine Or.inr (Exists.intro _ (Exists.intro _ (And.intro rfl ?_)))))))
local macro_rules | `(tactic| walk_at "wp") => `(tactic| repeat' walk_at "w1")

def p_size_of : List D → List Cell → R D := fnM 1 1 (retS (opM shlD (conM (.int 1)) (seeM 0)))
def p_is_integer : List D → List Cell → R D := fnM 2 2 (retS (andV (unM (isiD "int") (varM 0)) (andV (notV (unM (isiD "bool") (varM 0))) (andV (opM geD (seeM 0) (conM (.int 0))) (orV (opM isND (seeM 1) (conM .non)) (opM leD (seeM 0) (seeM 1)))))))
def p_Rule_are_lives : List D → List Cell → R D := fnM 1 4 (seqS (ifS (orB (notB (boolM (unM (isiD "tuple") (varM 0)))) (notB (boolM (chM leD leD (conM (.int 1)) (bltM lenF (consM (seeM 0) (nilM))) (conM (.int 61))))))
    (retS (conM (.bl false)))
    (skipS))
    (seqS (asgS (ifV (boolM (opM isND (opM ixD (seeM 0) (unM negD (conM (.int 1)))) (conM .non))) (slM (seeM 0) (noP) (atP (unM negD (conM (.int 1))))) (varM 0)) (tgN 1))
    (seqS (ifS (notB (boolM (bltM allF (consM (valM (lcM (seqIt (varM 1)) (tgN 2) (yesB) (callM 2 p_is_integer (consM (varM 2) (consM (conM (.int 1000000000000000000)) (nilM)))) [2])) (nilM)))))
    (retS (conM (.bl false)))
    (skipS))
    (retS (bltM allF (consM (valM (lcM (zipIt (consM (varM 1) (consM (slM (seeM 1) (atP (conM (.int 1))) (noP)) (nilM)))) (tgT 2 (tgs1 (tgN 2) (tgs1 (tgN 3) (tgs0)))) (yesB) (opM leD (seeM 2) (seeM 3)) [2, 3])) (nilM)))))))
def p_shortest : List D → List Cell → R D := fnM 1 2 (seqS (asgS (bltM lenF (consM (seeM 0) (nilM))) (tgN 1))
    (seqS (whL (andB (boolM (opM gtD (seeM 1) (conM (.int 1)))) (boolM (opM eqA (opM ixD (seeM 0) (opM subD (seeM 1) (conM (.int 1)))) (opM ixD (seeM 0) (opM subD (seeM 1) (conM (.int 2)))))))
    (augS subD 1 (conM (.int 1))) 100000)
    (retS (bltM tupF (consM (slM (seeM 0) (noP) (atP (seeM 1))) (nilM))))))
def p_Rule_init : List D → List Cell → R D := inM 2 (notB (boolM (smM 0 1 p_Rule_are_lives (conM (.cl 0)) (consM (varM 1) (nilM))))) (badS) (callM 1 p_shortest (consM (varM 1) (nilM)))
def p_Rule_of : List D → List Cell → R D := fnM 2 2 (seqS (ifS (notB (boolM (smM 0 1 p_Rule_are_lives (varM 0) (consM (varM 1) (nilM)))))
    (badS)
    (skipS))
    (retS (mkStarM 0 (inStar p_Rule_init) (varM 0) (varM 1))))
def lfD : Lf → D
  | none => .non
  | some n => .int n
abbrev lvD (L : List Lf) : D := .tup (L.map lfD)
theorem lfD_non {a : Lf} : lfD a = .non ↔ a = none := by cases a <;> simp [lfD]
theorem lfD_inj {a b : Lf} (h : lfD a = lfD b) : a = b := by
  cases a <;> cases b <;> simp [lfD] at h ⊢
  exact h
/-! looks at typed lists -/
theorem atI_map {α : Type} {f : α → D} {xs : List α} {i : Int} {x : α} (h0 : 0 ≤ i) (h : xs[i.toNat]? = some x) : atI (xs.map f) i = some (f x) :=
  atI_nat h0 (by rw [List.getElem?_map, h]; rfl)
theorem ix_lv {L : List Lf} {i : Int} {g : List Cell} (h0 : 0 ≤ i) (h1 : i < L.length) : ixD (lvD L) (.int i) g = some (lfD (at0 L i.toNat)) :=
  atI_map h0 (at0_eq (by omega))
theorem ix_lv_last {L : List Lf} {g : List Cell} (h : 0 < L.length) : ixD (lvD L) (.int (-1)) g = some (lfD (at0 L (L.length - 1))) := by
  show atI _ _ = _
  unfold atI ixN
  rw [if_neg (by decide), if_pos (by simp only [List.length_map]; omega)]
  show (L.map lfD)[((-1 : Int) + (L.map lfD).length).toNat]? = _
  rw [List.length_map, show ((-1 : Int) + L.length).toNat = L.length - 1 by omega, List.getElem?_map, at0_eq (by omega)]
  rfl
theorem ix_lv_2 {L : List Lf} {g : List Cell} (h : 2 ≤ L.length) : ixD (lvD L) (.int (-2)) g = some (lfD (at0 L (L.length - 2))) := by
  show atI _ _ = _
  unfold atI ixN
  rw [if_neg (by decide), if_pos (by simp only [List.length_map]; omega)]
  show (L.map lfD)[((-2 : Int) + (L.map lfD).length).toNat]? = _
  rw [List.length_map, show ((-2 : Int) + L.length).toNat = L.length - 2 by omega, List.getElem?_map, at0_eq (by omega)]
  rfl
theorem len_tup {α : Type} {f : α → D} {L : List α} {g : List Cell} : lenF [.tup (L.map f)] g = some (.int (L.length : Nat)) := by
  show some (D.int ((L.map f).length : Nat)) = _
  rw [List.length_map]
theorem len_lst {α : Type} {f : α → D} {L : List α} {g : List Cell} : lenF [.lst (L.map f)] g = some (.int (L.length : Nat)) := by
  show some (D.int ((L.map f).length : Nat)) = _
  rw [List.length_map]
theorem len_t1 {a : D} {g : List Cell} : lenF [.tup [a]] g = some (.int 1) := rfl
local macro_rules | `(tactic| walk_at "ex") => `(tactic| with_reducible refine Exists.intro _ (And.intro len_t1 ?_))
theorem len_t2 {a b : D} {g : List Cell} : lenF [.tup [a, b]] g = some (.int 2) := rfl
local macro_rules | `(tactic| walk_at "ex") => `(tactic| with_reducible refine Exists.intro _ (And.intro len_t2 ?_))
theorem len_t3 {a b c : D} {g : List Cell} : lenF [.tup [a, b, c]] g = some (.int 3) := rfl
local macro_rules | `(tactic| walk_at "ex") => `(tactic| with_reducible refine Exists.intro _ (And.intro len_t3 ?_))
theorem len_t4 {a b c d : D} {g : List Cell} : lenF [.tup [a, b, c, d]] g = some (.int 4) := rfl
local macro_rules | `(tactic| walk_at "ex") => `(tactic| with_reducible refine Exists.intro _ (And.intro len_t4 ?_))
theorem len_t5 {a b c d e : D} {g : List Cell} : lenF [.tup [a, b, c, d, e]] g = some (.int 5) := rfl
local macro_rules | `(tactic| walk_at "ex") => `(tactic| with_reducible refine Exists.intro _ (And.intro len_t5 ?_))
theorem len_l1 {a : D} {g : List Cell} : lenF [.lst [a]] g = some (.int 1) := rfl
local macro_rules | `(tactic| walk_at "ex") => `(tactic| with_reducible refine Exists.intro _ (And.intro len_l1 ?_))
theorem len_l2 {a b : D} {g : List Cell} : lenF [.lst [a, b]] g = some (.int 2) := rfl
local macro_rules | `(tactic| walk_at "ex") => `(tactic| with_reducible refine Exists.intro _ (And.intro len_l2 ?_))
theorem len_l3 {a b c : D} {g : List Cell} : lenF [.lst [a, b, c]] g = some (.int 3) := rfl
local macro_rules | `(tactic| walk_at "ex") => `(tactic| with_reducible refine Exists.intro _ (And.intro len_l3 ?_))
theorem len_l4 {a b c d : D} {g : List Cell} : lenF [.lst [a, b, c, d]] g = some (.int 4) := rfl
local macro_rules | `(tactic| walk_at "ex") => `(tactic| with_reducible refine Exists.intro _ (And.intro len_l4 ?_))
theorem len_l5 {a b c d e : D} {g : List Cell} : lenF [.lst [a, b, c, d, e]] g = some (.int 5) := rfl
local macro_rules | `(tactic| walk_at "ex") => `(tactic| with_reducible refine Exists.intro _ (And.intro len_l5 ?_))
theorem eqA_lf (a b : Lf) (g : List Cell) : eqA (lfD a) (lfD b) g = some (.bl (decide (a = b))) := by
  cases a <;> cases b
  · rfl
  · rfl
  · rfl
  · rename_i i j
    show some (D.bl (i == j)) = _
    rw [show (decide (some i = some j)) = (i == j) by
      by_cases q : i = j
      · simp [q]
      · simp [q]]
theorem eq2_lf {a b : Lf} {PB : Bool → List Cell → Prop} {g : List Cell} (h : Br (a = b) PB g) : Eq2 (lfD a) (lfD b) PB g := .inr ⟨_, eqA_lf a b g, h.dec⟩
theorem isN_lf {a : Lf} {PB : Bool → List Cell → Prop} {g : List Cell} (h : Br (a = none) PB g) : Br (lfD a = .non) PB g := ⟨fun z => h.1 (lfD_non.mp z), fun z => h.2 fun w => z (lfD_non.mpr w)⟩
theorem cutD_map {f : Lf → D} {L : List Lf} {lo hi : Option Int} : cutD (.tup (L.map f)) lo hi = some (.tup ((cutL L lo hi).map f)) := by
  show some (D.tup (cutL (L.map f) lo hi)) = _
  unfold cutL
  rw [List.length_map, ← List.map_drop, ← List.map_take]
theorem cut_init {α : Type} (ds : List α) : cutL ds none (some (-1)) = ds.take (ds.length - 1) := by
  simp only [cutL, HT.sIx]
  rw [if_pos (by decide), List.drop_zero, Nat.sub_zero]
  congr 1
  omega
theorem cut_tail {α : Type} (ds : List α) : cutL ds (some 1) none = ds.drop 1 := by
  simp only [cutL, HT.sIx]
  rw [if_neg (by decide)]
  by_cases h : ds.length = 0
  · have : ds = [] := List.eq_nil_of_length_eq_zero h
    subst this
    rfl
  · rw [show min (Int.toNat 1) ds.length = 1 by have : Int.toNat 1 = 1 := rfl; omega]
    exact List.take_of_length_le (by rw [List.length_drop]; omega)
theorem cut_to {α : Type} {ds : List α} {n : Int} (h0 : 0 ≤ n) (h : n ≤ ds.length) : cutL ds none (some n) = ds.take n.toNat := by
  simp only [cutL, HT.sIx]
  rw [if_neg (by omega), List.drop_zero, Nat.sub_zero, Nat.min_eq_left (by omega)]
local macro_rules | `(tactic| walk_at "ex") => `(tactic| with_reducible refine Exists.intro _ (And.intro (ix_lv (by walk_at "om") (by walk_at "om")) ?_))
local macro_rules | `(tactic| walk_at "ex") => `(tactic| with_reducible refine Exists.intro _ (And.intro (ix_lv_last (by walk_at "om")) ?_))
local macro_rules | `(tactic| walk_at "ex") => `(tactic| with_reducible refine Exists.intro _ (And.intro (ix_lv_2 (by walk_at "om")) ?_))
local macro_rules | `(tactic| walk_at "ex") => `(tactic| with_reducible refine Exists.intro _ (And.intro len_tup ?_))
local macro_rules | `(tactic| walk_at "ex") => `(tactic| with_reducible refine Exists.intro _ (And.intro len_lst ?_))
local macro_rules | `(tactic| walk_at "ex") => `(tactic| with_reducible refine Exists.intro _ (And.intro cutD_map ?_))
local macro_rules | `(tactic| walk_at "ex") => `(tactic| with_reducible refine eq2_lf ?_)
local macro_rules | `(tactic| walk_at "ex") => `(tactic| with_reducible refine isN_lf ?_)
/-! ### all([.. for ..]) -/
theorem lcMap {α : Type} {tg : D → Ev.Env → Option Ev.Env} {a : M D} {e : Ev.Env} {g : List Cell} {PL : List D → List Cell → Prop} {xs : List α} {f : α → D} (F : α → D)
    (h : ∀ (i : Nat) (x : α), xs[i]? = some x → ∃ e1, tg (f x) e = some e1 ∧ WR (a e1 g) fun y g2 => g2 = g ∧ y = F x) (k : PL (xs.map F) g) : WR (lcL tg yesB a e (xs.map f) g) PL :=
  wp_lcL (fun n acc g1 => g1 = g ∧ acc = (xs.take n).map F) ⟨rfl, rfl⟩ (fun i d acc g1 hd ⟨e1, e2⟩ => by
    subst e1
    rw [List.getElem?_map] at hd
    cases hx : xs[i]? with
    | none => rw [hx] at hd; cases hd
    | some x =>
      rw [hx] at hd
      cases hd
      obtain ⟨e1, h1, h2⟩ := h i x hx
      refine ⟨e1, h1, wp_yes ?_⟩
      rw [if_pos rfl]
      refine h2.mono fun y g2 ⟨y1, y2⟩ => ⟨y1, ?_⟩
      rw [e2, y2, List.take_succ, hx, List.map_append]
      rfl) (fun r g1 ⟨e1, e2⟩ => by
    subst e1
    rw [e2, List.length_map, List.take_length]
    exact k)
theorem all_map {α : Type} (xs : List α) (p : α → Bool) (g : List Cell) : allF [.lst (xs.map fun x => .bl (p x))] g = some (.bl (xs.all p)) := by
  show (blsOf _).map _ = _
  rw [show (xs.map fun x => D.bl (p x)) = (xs.map p).map .bl by rw [List.map_map]; rfl, blsOf_map]
  show some (D.bl ((xs.map p).all fun z => z)) = _
  rw [List.all_map]
  rfl
theorem any_map {α : Type} (xs : List α) (p : α → Bool) (g : List Cell) : anyF [.lst (xs.map fun x => .bl (p x))] g = some (.bl (xs.any p)) := by
  show (blsOf _).map _ = _
  rw [show (xs.map fun x => D.bl (p x)) = (xs.map p).map .bl by rw [List.map_map]; rfl, blsOf_map]
  show some (D.bl ((xs.map p).any fun z => z)) = _
  rw [List.any_map]
  rfl
local macro_rules | `(tactic| walk_at "ex") => `(tactic| with_reducible refine Exists.intro _ (And.intro (all_map _ _ _) ?_))
local macro_rules | `(tactic| walk_at "ex") => `(tactic| with_reducible refine Exists.intro _ (And.intro (any_map _ _ _) ?_))
/-! ### the functions -/
theorem size_of_wp {g : List Cell} {n : Int} (h0 : 0 ≤ n) (h1 : n ≤ 1000000) : WR (p_size_of [.int n] g) fun d g' => g' = g ∧ d = .int (2 ^ n.toNat) := by
  refine wp_fn rfl ?_
  walk_at "wp"
  rw [Int.one_mul]
local macro_rules | `(tactic| walk_at "call") => `(tactic| (with_reducible show WR (p_size_of _ _) _; with_reducible refine WR.eqv (size_of_wp (by walk_at "om") (by walk_at "om")) ?_))
theorem size_of_nat {g : List Cell} {n : Nat} (h1 : n ≤ 1000000) : WR (p_size_of [.int (n : Nat)] g) fun d g' => g' = g ∧ d = .int (2 ^ n) := by
  have := size_of_wp (g := g) (n := n) (by omega) (by omega)
  rwa [Int.toNat_natCast] at this
local macro_rules | `(tactic| walk_at "call") => `(tactic| (with_reducible show WR (p_size_of _ _) _; with_reducible refine WR.eqv (size_of_nat (by walk_at "om")) ?_))
theorem is_integer_wp {g : List Cell} {n h : Int} : WR (p_is_integer [.int n, .int h] g) fun d g' => g' = g ∧ d = .bl (decide (0 ≤ n ∧ n ≤ h)) := by
  refine wp_fn rfl ?_
  walk_at "wp"
  all_goals walk_at "dec"
local macro_rules | `(tactic| walk_at "call") => `(tactic| (with_reducible show WR (p_is_integer _ _) _; with_reducible refine WR.eqv is_integer_wp ?_))
theorem shortest_wp {g : List Cell} {L : List Lf} (h : 0 < L.length) (h1 : L.length ≤ 99999) : WR (p_shortest [lvD L] g) fun d g' => g' = g ∧ d = lvD (short L) := by
  refine wp_fn rfl ?_
  walk_at "wp"
  refine wp_whN (fun k e g' => g' = g ∧ 0 < k ∧ k ≤ L.length ∧ e = [.v (lvD L), .v (.int k)] ∧ cutAt L k = cutAt L L.length) (k := L.length) (by omega) ⟨rfl, h, Nat.le_refl _, rfl, rfl⟩ ?_
  rintro k e _ ⟨rfl, k1, k2, rfl, k3⟩
  obtain ⟨k, rfl⟩ : ∃ n, k = n + 1 := ⟨k - 1, by omega⟩
  walk_at "wp"
  · rename_i a b
    rw [show (((k + 1 : Nat) : Int) - 1).toNat = k by omega, show (((k + 1 : Nat) : Int) - 2).toNat = k - 1 by omega] at b
    refine ⟨k, by omega, rfl, by omega, by omega, by show [Ev.Slot.v (lvD L), Ev.Slot.v (D.int (((k + 1 : Nat) : Int) - 1))] = _; rw [show ((k + 1 : Nat) : Int) - 1 = k by omega], ?_⟩
    rw [← k3, cutAt, if_pos ⟨by omega, b⟩]
  · rename_i a b
    rw [show (((k + 1 : Nat) : Int) - 1).toNat = k by omega, show (((k + 1 : Nat) : Int) - 2).toNat = k - 1 by omega] at b
    rw [cut_to (by omega) (by omega), short, ← k3, cutAt, if_neg fun z => b z.2]
    rfl
  · rename_i a
    have : k = 0 := by omega
    subst this
    rw [cut_to (by omega) (by omega), short, ← k3]
    rfl
local macro_rules | `(tactic| walk_at "call") => `(tactic| (with_reducible show WR (p_shortest _ _) _; with_reducible refine WR.eqv (shortest_wp (by walk_at "om") (by walk_at "om")) ?_))
local macro_rules | `(tactic| walk_at "ex") => `(tactic| with_reducible refine Exists.intro _ (Exists.intro _ (And.intro rfl (And.intro (by walk_at "om") ?_))))
theorem zip_map {α β : Type} {f : α → D} {h : β → D} {xs : List α} {ys : List β} : zipL (xs.map f) (ys.map h) = (xs.zip ys).map fun p => .tup [f p.1, h p.2] := by
  unfold zipL
  rw [List.zip_map, List.map_map]
  rfl
theorem Given.all_fin {L : List Lf} (h : Given L) : ∃ W : List Lf, W = (if at0 L (L.length - 1) = none then L.take (L.length - 1) else L) ∧ (∀ x ∈ W, ∃ n, x = some n ∧ 0 ≤ n ∧ n ≤ 1000000000000000000) ∧ ∀ i, i + 1 < W.length → ∃ m n : Int, W[i]? = some (some m) ∧ W[i + 1]? = some (some n) ∧ m ≤ n := by
  refine ⟨_, rfl, ?_, ?_⟩
  · intro x hx
    have hm : x ∈ L := by
      split at hx
      · exact List.mem_of_mem_take hx
      · exact hx
    have : ∃ n, x = some n := by
      obtain ⟨i, hi, e⟩ := List.getElem_of_mem hx
      split at hx
      · rename_i q
        simp only [if_pos q] at e hi
        rw [List.length_take] at hi
        obtain ⟨n, hn⟩ := h.fin i (by omega)
        refine ⟨n, ?_⟩
        rw [← hn, ← e, List.getElem_take]
        exact Option.some.inj ((List.getElem?_eq_getElem _).symm.trans (at0_eq (by omega)))
      · rename_i q
        simp only [if_neg q] at e hi
        have e2 : x = at0 L i := by rw [← e]; exact Option.some.inj ((List.getElem?_eq_getElem _).symm.trans (at0_eq hi))
        by_cases z : i + 1 < L.length
        · obtain ⟨n, hn⟩ := h.fin i z
          exact ⟨n, e2.trans hn⟩
        · rw [show i = L.length - 1 by omega] at e2
          cases w : at0 L (L.length - 1) with
          | none => exact absurd w q
          | some n => exact ⟨n, e2.trans w⟩
    obtain ⟨n, rfl⟩ := this
    exact ⟨n, rfl, h.nn n hm, h.small n hm⟩
  · intro i hi
    have key : ∀ j, j + 1 < L.length → (j + 2 = L.length → at0 L (j + 1) ≠ none) → ∃ m n : Int, L[j]? = some (some m) ∧ L[j + 1]? = some (some n) ∧ m ≤ n := by
      intro j hj z
      obtain ⟨m, hm⟩ := h.fin j hj
      have hn : ∃ n, at0 L (j + 1) = some n := by
        by_cases q : j + 2 < L.length
        · exact h.fin (j + 1) q
        · cases w : at0 L (j + 1) with
          | none => exact absurd w (z (by omega))
          | some n => exact ⟨n, rfl⟩
      obtain ⟨n, hn⟩ := hn
      refine ⟨m, n, by rw [at0_eq (by omega), hm], by rw [at0_eq hj, hn], ?_⟩
      have := h.up j hj
      rw [hm, hn] at this
      exact this
    split at hi
    · rename_i q
      rw [List.length_take] at hi
      obtain ⟨m, n, a, b, c⟩ := key i (by omega) (by omega)
      simp only [if_pos q]
      exact ⟨m, n, by rw [List.getElem?_take_of_lt (by omega)]; exact a, by rw [List.getElem?_take_of_lt (by omega)]; exact b, c⟩
    · rename_i q
      simp only [if_neg q]
      exact key i hi fun w => by rw [show i + 1 = L.length - 1 by omega]; exact q
theorem are_lives_wp {g : List Cell} {L : List Lf} (h : Given L) : WR (p_Rule_are_lives [lvD L] g) fun d g' => g' = g ∧ d = .bl true := by
  have h1 := h.ne
  have h2 := h.most
  obtain ⟨W, eW, w1, w2⟩ := h.all_fin
  have hW : W.length ≤ 61 := by rw [eW]; split <;> (try rw [List.length_take]) <;> omega
  refine wp_fn rfl ?_
  refine wp_seq ?_
  refine WS.eqv (e1 := [.v (lvD L), .no, .no, .no]) (g1 := g) ?_ ?_
  · walk_at "wq"
  refine wp_seq ?_
  refine WS.eqv (e1 := [.v (lvD L), .v (lvD W), .no, .no]) (g1 := g) ?_ ?_
  · walk_at "wp"
    · rename_i a
      rw [cut_init, eW, if_pos a]
      rfl
    · rename_i a
      rw [eW, if_neg a]
      rfl
  walk_at "wp"
  refine lcMap (fun x => .bl (decide (0 ≤ num x ∧ num x ≤ 1000000000000000000))) ?_ ?_
  · intro i x hx
    obtain ⟨n, rfl, n1, n2⟩ := w1 x (List.mem_of_getElem? hx)
    refine ⟨_, rfl, ?_⟩
    unfold lfD
    walk_at "wp"
    rfl
  · walk_at "wp"
    have hall : (W.all fun x => decide (0 ≤ num x ∧ num x ≤ 1000000000000000000)) = true := by
      rw [List.all_eq_true]
      intro x hx
      obtain ⟨n, rfl, n1, n2⟩ := w1 x hx
      exact decide_eq_true ⟨n1, n2⟩
    rw [hall]
    walk_at "wp"
    rw [zip_map, cut_tail]
    refine ⟨by walk_at "om", ?_⟩
    · skip
      refine lcMap (fun p => .bl (decide (num p.1 ≤ num p.2))) ?_ ?_
      · intro i p hp
        have hl := (List.getElem?_eq_some_iff.mp hp).1
        rw [List.length_zip, List.length_drop] at hl
        obtain ⟨m, n, a, b, c⟩ := w2 i (by omega)
        rw [List.getElem?_zip_eq_some, List.getElem?_drop, show 1 + i = i + 1 by omega, a, b] at hp
        obtain ⟨x, y⟩ := p
        obtain ⟨e1, e2⟩ := hp
        cases e1
        cases e2
        refine ⟨_, rfl, ?_⟩
        show WR (opM leD (seeM 2) (seeM 3) [.v (lvD L), .v (lvD W), .v (.int m), .v (.int n)] g) _
        walk_at "wp"
        exact congrArg D.bl (decide_eq_true c).symm
      · walk_at "wp"
        congr 1
        rw [List.all_eq_true]
        intro p hp
        obtain ⟨i, hl, hp⟩ := List.getElem_of_mem hp
        have hp := (List.getElem?_eq_getElem hl).trans (congrArg some hp)
        rw [List.length_zip, List.length_drop] at hl
        obtain ⟨m, n, a, b, c⟩ := w2 i (by omega)
        rw [List.getElem?_zip_eq_some, List.getElem?_drop, show 1 + i = i + 1 by omega, a, b] at hp
        obtain ⟨x, y⟩ := p
        obtain ⟨e1, e2⟩ := hp
        cases e1
        cases e2
        exact decide_eq_true c
local macro_rules | `(tactic| walk_at "call") => `(tactic| (with_reducible show WR (p_Rule_are_lives _ _) _; with_reducible refine WR.eqv (are_lives_wp (by assumption)) ?_))
/-- a rule of class c -/
abbrev ruD (c : Nat) (L : List Lf) : D := .ob c (lvD L)
theorem init_wp {g : List Cell} {L : List Lf} (h : Given L) : WR (inStar p_Rule_init (L.map lfD) g) fun d g' => g' = g ∧ d = lvD (short L) := by
  have h1 := h.ne
  have h2 := h.most
  refine wp_inStar (by rw [List.length_map]; omega) ?_
  refine wp_in ?_
  show WR _ _
  walk_at "wp"
local macro_rules | `(tactic| walk_at "call") => `(tactic| (with_reducible show WR (inStar _ _ _) _; with_reducible refine WR.eqv (init_wp (by assumption)) ?_))
theorem rule_of_wp {g : List Cell} {L : List Lf} (h : Given L) : WR (p_Rule_of [.cl 0, lvD L] g) fun d g' => g' = g ∧ d = ruD 0 (short L) := by
  have h1 := h.ne
  have h2 := h.most
  refine wp_fn rfl ?_
  walk_at "wp"
local macro_rules | `(tactic| walk_at "call") => `(tactic| (with_reducible show WR (p_Rule_of _ _) _; with_reducible refine WR.eqv (rule_of_wp (by assumption)) ?_))
theorem star_last {L : List Lf} (h : 0 < L.length) (fs : List D → Ev.Env → Option Ev.Env) (e : Ev.Env) : tgStar 2 fs (lvD L) e = fs [.lst ((L.take (L.length - 1)).map lfD), lfD (at0 L (L.length - 1))] e := by
  show (if 2 ≤ (L.map lfD).length + 1 then fs (.lst ((L.map lfD).take ((L.map lfD).length + 1 - 2)) :: (L.map lfD).drop ((L.map lfD).length + 1 - 2)) e else none) = _
  rw [List.length_map, if_pos (by omega), show L.length + 1 - 2 = L.length - 1 by omega, ← List.map_take, ← List.map_drop, List.drop_eq_getElem_cons (by omega), show L.length - 1 + 1 = L.length by omega, List.drop_length]
  have := at0_eq (L := L) (i := L.length - 1) (by omega)
  rw [List.getElem?_eq_getElem (by omega)] at this
  rw [Option.some.inj this]
  rfl
local macro_rules | `(tactic| walk_at "ex") => `(tactic| with_reducible refine Exists.intro _ (And.intro ((star_last (by walk_at "om") _ _).trans (by with_unfolding_all rfl)) ?_))
theorem num_nn {L : List Lf} (h : Lives L) (i : Nat) : 0 ≤ num (at0 L i) := by
  cases e : at0 L i with
  | none => exact Int.le_refl 0
  | some n =>
    by_cases q : i < L.length
    · exact h.nn n (e ▸ at0_mem q)
    · unfold at0 at e
      rw [List.getD_eq_getElem?_getD, List.getElem?_eq_none (by omega)] at e
      cases e
theorem pow_nn (k : Nat) : (0 : Int) ≤ 2 ^ k := Int.le_of_lt (Int.pow_pos (by decide))
theorem pow_pos' (k : Nat) : (0 : Int) < 2 ^ k := Int.pow_pos (by decide)
theorem sumTo_nn {f : Nat → Int} {n : Nat} (h : ∀ i, i < n → 0 ≤ f i) : 0 ≤ sumTo f n := by
  induction n with
  | zero => exact Int.le_refl _
  | succ n ih => rw [sumTo]; have := ih fun i hi => h i (by omega); have := h n (by omega); omega
theorem avS_nn {L : List Lf} (h : Lives L) (k : Nat) : 0 ≤ avS L k := by
  have a := num_nn h k
  have b : 0 ≤ sumTo (fun i => num (at0 L i) * 2 ^ (k - 1 - i)) k := sumTo_nn fun i _ => Int.mul_nonneg (num_nn h i) (pow_nn _)
  unfold avS
  omega
theorem pow_le {a b : Nat} (h : a ≤ b) : (2 : Int) ^ a ≤ 2 ^ b := by exact_mod_cast Nat.pow_le_pow_right (show 2 > 0 by decide) h
theorem pow_lt64 {a : Nat} (h : a ≤ 63) : (2 : Int) ^ a < 18446744073709551616 := Int.lt_of_le_of_lt (pow_le h) (by decide)
theorem enumL_length (xs : List D) : (enumL xs).length = xs.length := by unfold enumL; rw [List.length_zipWith, List.length_range, Nat.min_self]
theorem aug_add {i j : Int} {g : List Cell} {P : D → Prop} (h : P (.int (i + j))) : ∃ z, onI0 (fun i j => D.int (i + j)) (.int i) (.int j) g = some z ∧ P z := ⟨_, rfl, h⟩
local macro_rules | `(tactic| walk_at "ex") => `(tactic| with_reducible refine aug_add ?_)
/-- whole numbers within bounds -/
def IntsIn (lo hi : Int) (ds : List D) : Prop := ∀ d ∈ ds, ∃ k : Int, d = .int k ∧ lo ≤ k ∧ k ≤ hi
theorem IntsIn.nil {lo hi : Int} : IntsIn lo hi [] := fun _ h => nomatch h
theorem IntsIn.cons {lo hi k : Int} {ds : List D} (h1 : lo ≤ k ∧ k ≤ hi) (h : IntsIn lo hi ds) : IntsIn lo hi (.int k :: ds) := fun d hd => by
  rcases List.mem_cons.mp hd with rfl | hd
  · exact ⟨k, rfl, h1⟩
  · exact h d hd
local macro_rules | `(tactic| walk_at "ints") => `(tactic| repeat (first | with_reducible exact IntsIn.nil | with_reducible refine IntsIn.cons (by walk_at "om") ?_))
theorem add2_lv_non {L : List Lf} {P : D → List Cell → Prop} {g : List Cell} (hl : L.length ≤ 1000000) (h : P (lvD (L ++ [none])) g) : Add2 (lvD L) (.tup [.non]) P g :=
  add2_tup (by rw [List.length_map, List.length_singleton]; omega) (by rw [show L.map lfD ++ [.non] = (L ++ [none]).map lfD by rw [List.map_append]; rfl]; exact h)
theorem map_push {L : List Lf} {x : Int} : L.map lfD ++ [.int x] = (L ++ [some x]).map lfD := by rw [List.map_append]; rfl
/-! ### repr -/
structure Rp (d : D) (k n : Nat) : Prop where
  ok : okd d k = true
  sh : shw d = true
  sz : siz d ≤ n
structure Rps (ds : List D) (k n : Nat) : Prop where
  ok : okds ds k = true
  sh : shws ds = true
  sz : sizs ds ≤ n
theorem Rp.int {i : Int} {k : Nat} (h : -340282366920938463463374607431768211456 < i ∧ i < 340282366920938463463374607431768211456) : Rp (.int i) k 130 := by
  have h2 : i.natAbs.log2 < 128 := by
    by_cases q : i.natAbs = 0
    · rw [q]; decide
    · exact (Nat.log2_lt q).mpr (by omega)
  exact ⟨rfl, by simp only [shw, decide_eq_true_eq]; omega, by simp only [siz]; omega⟩
theorem Rp.non {k : Nat} : Rp .non k 4 := ⟨rfl, rfl, Nat.le_refl _⟩
theorem Rp.bl {b : Bool} {k : Nat} : Rp (.bl b) k 5 := ⟨rfl, rfl, Nat.le_refl _⟩
theorem Rps.nil {k : Nat} : Rps [] k 0 := ⟨rfl, rfl, Nat.le_refl _⟩
theorem Rps.cons {d : D} {ds : List D} {k n m : Nat} (h : Rp d k n) (r : Rps ds k m) : Rps (d :: ds) k (n + 2 + m) :=
  ⟨by simp only [okds, h.ok, r.ok]; rfl, by simp only [shws, h.sh, r.sh]; rfl, by simp only [sizs]; have := h.sz; have := r.sz; omega⟩
theorem Rp.tup {ds : List D} {k n : Nat} (h : Rps ds k n) : Rp (.tup ds) (k + 1) (n + 4) :=
  ⟨by simp only [okd, Nat.add_sub_cancel, h.ok, Nat.zero_lt_succ, decide_true]; rfl, by simp only [shw]; exact h.sh, by simp only [siz]; have := h.sz; omega⟩
theorem Rp.lst {ds : List D} {k n : Nat} (h : Rps ds k n) : Rp (.lst ds) (k + 1) (n + 4) :=
  ⟨by simp only [okd, Nat.add_sub_cancel, h.ok, Nat.zero_lt_succ, decide_true]; rfl, by simp only [shw]; exact h.sh, by simp only [siz]; have := h.sz; omega⟩
theorem Rps.map {α : Type} {f : α → D} {k n : Nat} : ∀ {xs : List α}, (∀ x ∈ xs, Rp (f x) k n) → Rps (xs.map f) k ((n + 2) * xs.length)
  | [], _ => Rps.nil
  | x :: xs, h => by
    have a := Rps.cons (h x (List.mem_cons_self ..)) (Rps.map (xs := xs) fun y hy => h y (List.mem_cons_of_mem _ hy))
    exact ⟨a.ok, a.sh, Nat.le_trans a.sz (by rw [List.length_cons, Nat.mul_succ]; omega)⟩
theorem Rp.le {d : D} {k n m : Nat} (h : Rp d k n) (l : n ≤ m) : Rp d k m := ⟨h.ok, h.sh, Nat.le_trans h.sz l⟩
theorem Rps.le {d : List D} {k n m : Nat} (h : Rps d k n) (l : n ≤ m) : Rps d k m := ⟨h.ok, h.sh, Nat.le_trans h.sz l⟩
theorem rpr_of {d : D} {n : Nat} {g : List Cell} (h : Rp d 60 n) (l : n ≤ 16777216) : rprF [d] g = some (.str (toPd d).shown) := by
  unfold rprF
  simp only
  rw [if_pos ⟨h.ok, h.sh, Nat.le_trans h.sz l⟩]
local macro_rules | `(tactic| walk_at "rp") => `(tactic| repeat (first | with_reducible exact Rp.non | with_reducible exact Rp.bl | with_reducible exact Rps.nil | with_reducible apply Rps.cons | with_reducible apply Rp.tup | with_reducible apply Rp.lst | with_reducible exact Rp.int (by walk_at "om") | assumption))
local macro_rules | `(tactic| walk_at "ex") => `(tactic| with_reducible refine Exists.intro _ (And.intro (rpr_of (by walk_at "rp") (by decide)) ?_))
theorem inV_ints (x : Int) : ∀ ns : List Int, inV (.int x) (ns.map V.int) = decide (x ∈ ns)
  | [] => rfl
  | n :: ns => by
    have := inV_ints x ns
    unfold inV at this ⊢
    rw [List.map_cons, List.any_cons, this]
    show (n == x || _) = _
    by_cases q : n = x
    · subst q; simp
    · have q' : ¬ x = n := fun z => q z.symm
      simp [q, q']
theorem all_flat : ∀ ns : List Int, (ns.map D.int).all flatD = true
  | [] => rfl
  | n :: ns => by rw [List.map_cons, List.all_cons, all_flat ns]; rfl
theorem in_ints {x : Int} {ns : List Int} {g : List Cell} : inD false (.int x) (.lst (ns.map D.int)) g = some (.bl (decide (x ∈ ns))) := by
  unfold inD
  simp only
  rw [if_pos ⟨rfl, all_flat ns⟩, List.map_map, show (toV ∘ D.int) = V.int from rfl]
  rw [show toV (D.int x) = V.int x from rfl, inV_ints]
  rfl
theorem nin_ints {x : Int} {ns : List Int} {g : List Cell} : inD true (.int x) (.lst (ns.map D.int)) g = some (.bl (!decide (x ∈ ns))) := by
  unfold inD
  simp only
  rw [if_pos ⟨rfl, all_flat ns⟩, List.map_map, show (toV ∘ D.int) = V.int from rfl]
  rw [show toV (D.int x) = V.int x from rfl, inV_ints]
  rfl
local macro_rules | `(tactic| walk_at "ex") => `(tactic| with_reducible refine Exists.intro _ (And.intro in_ints ?_))
local macro_rules | `(tactic| walk_at "ex") => `(tactic| with_reducible refine Exists.intro _ (And.intro nin_ints ?_))
theorem eqA_pair (a b c d : Int) (g : List Cell) : eqA (.tup [.int a, .int b]) (.tup [.int c, .int d]) g = some (.bl (decide (a = c ∧ b = d))) := by
  show some (D.bl (a == c && (b == d && true))) = _
  by_cases q : a = c
  · by_cases w : b = d
    · rw [decide_eq_true ⟨q, w⟩]; subst q; subst w; simp
    · rw [decide_eq_false fun z => w z.2]; simp [w]
  · rw [decide_eq_false fun z => q z.1]; simp [q]
theorem eq2_pair {a b c d : Int} {PB : Bool → List Cell → Prop} {g : List Cell} (h : Br (a = c ∧ b = d) PB g) : Eq2 (.tup [.int a, .int b]) (.tup [.int c, .int d]) PB g := .inr ⟨_, eqA_pair a b c d g, h.dec⟩
local macro_rules | `(tactic| walk_at "ex") => `(tactic| with_reducible refine eq2_pair ?_)
/-- one turn alone -/
theorem lc_one {tg : D → Ev.Env → Option Ev.Env} {a : M D} {e e1 : Ev.Env} {g : List Cell} {PL : List D → List Cell → Prop} {d : D} (h1 : tg d e = some e1) (h : WR (a e1 g) fun y g2 => PL [y] g2) : WR (lcL tg yesB a e [d] g) PL :=
  wp_lcL (fun n acc g1 => (n = 0 → acc = [] ∧ g1 = g) ∧ (n = 1 → PL acc g1)) ⟨fun _ => ⟨rfl, rfl⟩, fun z => nomatch z⟩ (fun i d' acc g1 hd ⟨q0, q1⟩ => by
    have hi : i = 0 := by
      have := (List.getElem?_eq_some_iff.mp hd).1
      rw [List.length_singleton] at this
      omega
    subst hi
    cases hd
    obtain ⟨rfl, rfl⟩ := q0 rfl
    refine ⟨e1, h1, wp_yes ?_⟩
    rw [if_pos rfl]
    exact h.mono fun y g2 p => ⟨(fun z => nomatch z), fun _ => p⟩) fun r g1 q => q.2 rfl
theorem all_one {b : Bool} {g : List Cell} : allF [.lst [.bl b]] g = some (.bl b) := by cases b <;> rfl
local macro_rules | `(tactic| walk_at "ex") => `(tactic| with_reducible refine Exists.intro _ (And.intro all_one ?_))
mutual
theorem eqv_refl : ∀ {d : D} {n : Nat}, okd d n = true → PyData.eqv (toPd d) (toPd d) = true
  | .non, _, _ => rfl
  | .bl b, _, _ => by cases b <;> rfl
  | .int i, _, _ => by show (i == i) = true; exact beq_self_eq_true i
  | .str x, _, _ => by show (x == x) = true; exact beq_self_eq_true x
  | .tup ds, _, h => by
    simp only [okd, Bool.and_eq_true] at h
    exact eqvs_refl h.2
  | .lst ds, _, h => by
    simp only [okd, Bool.and_eq_true] at h
    exact eqvs_refl h.2
  | .ob _ _, _, h => by simp [okd] at h
  | .g _, _, h => by simp [okd] at h
  | .sc _, _, h => by simp [okd] at h
  | .cl _, _, h => by simp [okd] at h
theorem eqvs_refl : ∀ {ds : List D} {n : Nat}, okds ds n = true → PyData.eqvAll (toPds ds) (toPds ds) = true
  | [], _, _ => rfl
  | d :: ds, _, h => by
    simp only [okds, Bool.and_eq_true] at h
    show (PyData.eqv (toPd d) (toPd d) && PyData.eqvAll (toPds ds) (toPds ds)) = true
    rw [eqv_refl h.1, eqvs_refl h.2]
    rfl
end
mutual
theorem okd_mono : ∀ {d : D} {n m : Nat}, n ≤ m → okd d n = true → okd d m = true
  | .non, _, _, _, _ => rfl
  | .bl b, _, _, _, _ => rfl
  | .int i, _, _, _, _ => rfl
  | .str x, _, _, _, h => h
  | .tup ds, _, _, l, h => by
    simp only [okd, Bool.and_eq_true, decide_eq_true_eq] at h ⊢
    exact ⟨by omega, okds_mono (by omega) h.2⟩
  | .lst ds, _, _, l, h => by
    simp only [okd, Bool.and_eq_true, decide_eq_true_eq] at h ⊢
    exact ⟨by omega, okds_mono (by omega) h.2⟩
  | .ob _ _, _, _, _, h => by simp [okd] at h
  | .g _, _, _, _, h => by simp [okd] at h
  | .sc _, _, _, _, h => by simp [okd] at h
  | .cl _, _, _, _, h => by simp [okd] at h
theorem okds_mono : ∀ {ds : List D} {n m : Nat}, n ≤ m → okds ds n = true → okds ds m = true
  | [], _, _, _, _ => rfl
  | d :: ds, _, _, l, h => by
    simp only [okds, Bool.and_eq_true] at h ⊢
    exact ⟨okd_mono l h.1, okds_mono l h.2⟩
end
theorem eqA_refl {d : D} {g : List Cell} (h : okd d 60 = true) : eqA d d g = some (.bl true) := by
  have h4 := okd_mono (show 60 ≤ 64 by decide) h
  have hP : eqP d d g = some (.bl true) := by
    unfold eqP
    rw [if_pos ⟨h4, h4⟩]
    unfold eqd
    rw [eqv_refl h4]
  unfold eqA orF
  cases d <;> first | exact hP | skip
  rename_i x
  show some (D.bl (x == x)) = _
  rw [beq_self_eq_true]
theorem eq2_refl {d : D} {n : Nat} {PB : Bool → List Cell → Prop} {g : List Cell} (h : Rp d 60 n) (k : PB true g) : Eq2 d d PB g := .inr ⟨_, eqA_refl h.ok, k⟩
local macro_rules | `(tactic| walk_at "ex") => `(tactic| with_reducible refine eq2_refl (by walk_at "rp") ?_)
/-- a comprehension with a test -/
theorem lcFil {α : Type} {tg : D → Ev.Env → Option Ev.Env} {t : M Bool} {a : M D} {e : Ev.Env} {g : List Cell} {PL : List D → List Cell → Prop} {xs : List α} {f : α → D} (p : α → Bool) (F : α → D)
    (h : ∀ (i : Nat) (x : α), xs[i]? = some x → ∃ e1, tg (f x) e = some e1 ∧ WR (t e1 g) fun b g2 => g2 = g ∧ b = p x ∧ (b = true → WR (a e1 g2) fun y g3 => g3 = g ∧ y = F x)) (k : PL ((xs.filter p).map F) g) : WR (lcL tg t a e (xs.map f) g) PL :=
  wp_lcL (fun n acc g1 => g1 = g ∧ acc = ((xs.take n).filter p).map F) ⟨rfl, rfl⟩ (fun i d acc g1 hd ⟨e1, e2⟩ => by
    subst e1
    rw [List.getElem?_map] at hd
    cases hx : xs[i]? with
    | none => rw [hx] at hd; cases hd
    | some x =>
      rw [hx] at hd
      cases hd
      obtain ⟨e1, h1, h2⟩ := h i x hx
      refine ⟨e1, h1, ?_⟩
      refine h2.mono fun b g2 ⟨y1, y2, y3⟩ => ?_
      subst y1
      rw [List.take_succ, hx, List.filter_append, List.map_append]
      have e3 : (some x).toList = [x] := rfl
      rw [e3, List.filter_cons, List.filter_nil]
      cases b with
      | true =>
        rw [if_pos rfl, ← y2]
        refine (y3 rfl).mono fun y g3 ⟨z1, z2⟩ => ⟨z1, ?_⟩
        rw [e2, z2]
        rfl
      | false =>
        rw [if_neg (by decide), ← y2]
        exact ⟨rfl, by rw [e2]; simp⟩) (fun r g1 ⟨e1, e2⟩ => by
    subst e1
    rw [e2, List.length_map, List.take_length]
    exact k)
theorem map_get {α : Type} {f : α → D} {xs : List α} {i : Nat} {d : D} (h : (xs.map f)[i]? = some d) : ∃ x, xs[i]? = some x ∧ d = f x := by
  rw [List.getElem?_map] at h
  cases hx : xs[i]? with
  | none => rw [hx] at h; cases h
  | some x => rw [hx] at h; cases h; exact ⟨x, rfl, rfl⟩
theorem enum_lv {L : List Lf} {i : Nat} {d : D} (h : (enumL (L.map lfD))[i]? = some d) : i < L.length ∧ d = .tup [.int (i : Nat), lfD (at0 L i)] := by
  obtain ⟨y, hy, rfl⟩ := enumL_get h
  have hi : i < L.length := by
    have := (List.getElem?_eq_some_iff.mp hy).1
    rwa [List.length_map] at this
  rw [List.getElem?_map, at0_eq hi] at hy
  cases hy
  exact ⟨hi, rfl⟩
/-! is True, is False -/
theorem ex_isT {b : Bool} {P : D → Prop} {g : List Cell} (h : P (.bl b)) : ∃ d, isBD (.bl b) (.bl true) g = some d ∧ P d := ⟨_, rfl, by cases b <;> exact h⟩
theorem ex_isF {b : Bool} {P : D → Prop} {g : List Cell} (h : P (.bl (!b))) : ∃ d, isBD (.bl b) (.bl false) g = some d ∧ P d := ⟨_, rfl, by cases b <;> exact h⟩
theorem ex_notT {b : Bool} {P : D → Prop} {g : List Cell} (h : P (.bl (!b))) : ∃ d, notBD (.bl b) (.bl true) g = some d ∧ P d := ⟨_, rfl, by cases b <;> exact h⟩
theorem ex_notF {b : Bool} {P : D → Prop} {g : List Cell} (h : P (.bl b)) : ∃ d, notBD (.bl b) (.bl false) g = some d ∧ P d := ⟨_, rfl, by cases b <;> exact h⟩
local macro_rules | `(tactic| walk_at "ex") => `(tactic| with_reducible refine ex_isT ?_)
local macro_rules | `(tactic| walk_at "ex") => `(tactic| with_reducible refine ex_isF ?_)
local macro_rules | `(tactic| walk_at "ex") => `(tactic| with_reducible refine ex_notT ?_)
local macro_rules | `(tactic| walk_at "ex") => `(tactic| with_reducible refine ex_notF ?_)
theorem eqA_bl {b c : Bool} {g : List Cell} : eqA (.bl b) (.bl c) g = some (.bl (decide (b = c))) := by cases b <;> cases c <;> rfl
theorem eq2_bl {b c : Bool} {PB : Bool → List Cell → Prop} {g : List Cell} (h : Br (b = c) PB g) : Eq2 (.bl b) (.bl c) PB g := .inr ⟨_, eqA_bl, h.dec⟩
local macro_rules | `(tactic| walk_at "ex") => `(tactic| with_reducible refine eq2_bl ?_)
theorem cutD_lst {f : Lf → D} {L : List Lf} {lo hi : Option Int} : cutD (.lst (L.map f)) lo hi = some (.lst ((cutL L lo hi).map f)) := by
  show some (D.lst (cutL (L.map f) lo hi)) = _
  unfold cutL
  rw [List.length_map, ← List.map_drop, ← List.map_take]
theorem ix_ll_last {L : List Lf} {g : List Cell} (h : 0 < L.length) : ixD (.lst (L.map lfD)) (.int (-1)) g = some (lfD (at0 L (L.length - 1))) := ix_lv_last (g := g) h
local macro_rules | `(tactic| walk_at "ex") => `(tactic| with_reducible refine Exists.intro _ (And.intro cutD_lst ?_))
local macro_rules | `(tactic| walk_at "ex") => `(tactic| with_reducible refine Exists.intro _ (And.intro (ix_ll_last (by walk_at "om")) ?_))

def q_potv : List D → List Cell → R D := fnM 2 4 (seqS (asgS (ifV (boolM (opM ltD (seeM 1) (bltM lenF (consM (seeM 0) (nilM))))) (opM ixD (seeM 0) (seeM 1)) (opM addD (opM mulD (conM (.int 7)) (seeM 1)) (conM (.int 5)))) (tgN 2))
    (seqS (asgS (opM mulD (opM modD (bltM absF (consM (seeM 2) (nilM))) (conM (.int 1000000000000000000000000000000000000000000000000000000000000000000000000000000000000000000000000000000000000000000000000000000000000000000000000000000000000000000000000000000000000))) (bltM intF (consM (opM geD (bltM absF (consM (seeM 2) (nilM))) (conM (.int 1000000000000000000))) (nilM)))) (tgN 3))
    (retCell (fitM (consM (varM 3) (consM (opM modD (opM addD (opM addD (opM mulD (opM modD (seeM 2) (conM (.int 2305843009213693951))) (conM (.int 1000003))) (opM mulD (conM (.int 104729)) (seeM 1))) (conM (.int 71))) (conM (.int 2305843009213693921))) (consM (conM (.int 0)) (nilM))))))))
def q_two : List D → List Cell → R D := fnM 1 3 (seqS (asgS (conM (.int 1)) (tgN 1))
    (seqS (forS (rngIt (consM (seeM 0) (nilM))) (tgN 2)
    (asgS (opM mulD (seeM 1) (conM (.int 2))) (tgN 1)))
    (retS (varM 1))))
def q_takev : List D → List Cell → R D := fnM 2 5 (seqS (ifS (boolM (opM gtD (opM ixD (seeM 0) (conM (.int 0))) (conM (.int 0))))
    (seqS (asgS (opM modD (opM ixD (seeM 0) (conM (.int 0))) (seeM 1)) (tgN 4))
    (seqS (setS 0 (conM (.int 0)) (opM fdivD (opM ixD (seeM 0) (conM (.int 0))) (seeM 1)))
    (retS (varM 4))))
    (skipS))
    (seqS (setS 0 (conM (.int 2)) (opM addD (opM ixD (seeM 0) (conM (.int 2))) (conM (.int 1))))
    (seqS (asgS (opM ixD (valM (fitM (consM (conM (.int 2305843009213693951)) (consM (conM (.int 2305843009213693921)) (consM (conM (.int 2305843009213693907)) (consM (conM (.int 2305843009213693723)) (nilM))))))) (opM modD (opM ixD (seeM 0) (conM (.int 2))) (conM (.int 4)))) (tgN 2))
    (seqS (asgS (opM modD (opM powD (opM addD (opM addD (opM ixD (seeM 0) (conM (.int 1))) (opM mulD (opM mulD (conM (.int 15485863)) (opM ixD (seeM 0) (conM (.int 2)))) (opM ixD (seeM 0) (conM (.int 2))))) (conM (.int 7))) (conM (.int 3))) (seeM 2)) (tgN 3))
    (retS (opM modD (opM fdivD (opM modD (opM mulD (seeM 3) (opM addD (opM modD (seeM 3) (conM (.int 1000003))) (opM ixD (seeM 0) (conM (.int 2))))) (seeM 2)) (conM (.int 4099))) (seeM 1)))))))
def q_ended : List D → List Cell → R D := fnM 2 2 (retS (ifV (boolM (opM eqA (callM 2 q_takev (consM (varM 0) (consM (conM (.int 4)) (nilM)))) (conM (.int 0)))) (opM addD (slM (seeM 1) (noP) (atP (unM negD (conM (.int 1))))) (tupM (consM (conM .non) (nilM)))) (varM 1)))
def q_of : List D → List Cell → R D := fnM 2 2 (retS (opM ixD (seeM 1) (callM 2 q_takev (consM (varM 0) (consM (bltM lenF (consM (seeM 1) (nilM))) (nilM))))))
def q_lives : List D → List Cell → R D := fnM 3 8 (seqS (parFS 4 5 (fitM (nilM)) (callM 2 q_of (consM (varM 0) (consM (valM (fitM (consM (conM (.int 0)) (consM (conM (.int 0)) (consM (conM (.int 1)) (consM (callM 2 q_takev (consM (varM 0) (consM (opM addD (seeM 2) (conM (.int 1))) (nilM)))) (nilM))))))) (nilM)))))
    (seqS (forS (rngIt (consM (seeM 1) (nilM))) (tgN 3)
    (seqS (asgS (callM 1 q_two (consM (varM 3) (nilM))) (tgN 6))
    (seqS (asgS (callM 2 q_of (consM (varM 0) (consM (valM (fitM (consM (conM (.int 0)) (consM (conM (.int 0)) (consM (conM (.int 1)) (consM (varM 6) (consM (callM 2 q_takev (consM (varM 0) (consM (opM addD (seeM 2) (conM (.int 1))) (nilM)))) (consM (opM addD (seeM 6) (callM 2 q_takev (consM (varM 0) (consM (opM addD (seeM 2) (conM (.int 1))) (nilM))))) (nilM))))))))) (nilM)))) (tgN 7))
    (seqS (asgS (bltM minF (consM (opM addD (seeM 5) (seeM 7)) (consM (conM (.int 1000000000000000000)) (nilM)))) (tgN 5))
    (appendS 4 (varM 5))))))
    (retS (bltM tupF (consM (seeM 4) (nilM))))))
/-! the pots of the laws k13 .. -/
def PotB (g : List Cell) (n B : Nat) : Prop := ∃ a b c : Int, g[n]? = some (.lst [.int a, .int b, .int c]) ∧ 0 ≤ a ∧ (0 ≤ b ∧ b < 2305843009213693951) ∧ 0 ≤ c ∧ c + B ≤ 524288
theorem PotB.less {g : List Cell} {n B B' : Nat} (h : PotB g n B) (k : B' ≤ B) : PotB g n B' := by
  obtain ⟨a, b, c, h1, h2, h3, h4, h5⟩ := h
  exact ⟨a, b, c, h1, h2, h3, h4, by omega⟩
theorem takeB_wp {g : List Cell} {n B : Nat} {k : Int} (h : PotB g n B) (hB : 1 ≤ B) (hk : 0 < k) (hk2 : k < 18446744073709551616) : WR (q_takev [.g n, .int k] g) fun d g' => ∃ r, d = .int r ∧ 0 ≤ r ∧ r < k ∧ PotB g' n (B - 1) := by
  obtain ⟨a, b, c, h1, h2, h3, h4, h5⟩ := h
  refine wp_fn rfl ?_
  walk_at "wp"
  · exact ⟨Int.emod_nonneg _ (by omega), Int.emod_lt_of_pos _ hk, ⟨a / k, b, c, cset_get h1, Int.ediv_nonneg h2 (by omega), h3, h4, by omega⟩⟩
  · obtain ⟨d, hd, e⟩ := atI_mem (ds := [D.int 2305843009213693951, D.int 2305843009213693921, D.int 2305843009213693907, D.int 2305843009213693723]) (i := (c + 1) % 4) (by omega) (by simp only [List.length_cons, List.length_nil]; omega)
    have hp : ∃ p : Int, d = .int p ∧ 0 < p ∧ p < 2305843009213693952 := by
      simp only [List.mem_cons, List.not_mem_nil, or_false] at hd
      rcases hd with rfl | rfl | rfl | rfl <;> exact ⟨_, rfl, by omega, by omega⟩
    obtain ⟨p, rfl, p1, p2⟩ := hp
    have q1 : (c + 1) * (c + 1) ≤ 524288 * 524288 := Int.mul_le_mul (by omega) (by omega) (by omega) (by omega)
    have q2 : 0 ≤ (c + 1) * (c + 1) := Int.mul_nonneg (by omega) (by omega)
    have q3 : 15485863 * (c + 1) * (c + 1) = 15485863 * ((c + 1) * (c + 1)) := Int.mul_assoc ..
    have m1 := Int.emod_nonneg ((b + 15485863 * (c + 1) * (c + 1) + 7) ^ Int.toNat 3) (show p ≠ 0 by omega)
    have m2 := Int.emod_lt_of_pos ((b + 15485863 * (c + 1) * (c + 1) + 7) ^ Int.toNat 3) p1
    refine ⟨_, e, ?_⟩
    walk_at "wp"
    exact ⟨Int.emod_nonneg _ (by omega), Int.emod_lt_of_pos _ hk, ⟨a, b, c + 1, cset_get h1, h2, h3, by omega, by omega⟩⟩
local macro_rules | `(tactic| walk_at "call") => `(tactic| (with_reducible show WR (q_takev _ _) _; (with_reducible refine WR.mono (takeB_wp (by assumption) (by walk_at "om") (by walk_at "om") (by walk_at "om")) (fun d g1 h => ?_); obtain ⟨r, e, r0, r1, hp⟩ := h; subst e)))
theorem ofB_wp {g : List Cell} {n B : Nat} {ds : List D} (h : PotB g n B) (hB : 1 ≤ B) (hk : 0 < ds.length) (hk2 : ds.length ≤ 16777216) : WR (q_of [.g n, .lst ds] g) fun d g' => d ∈ ds ∧ PotB g' n (B - 1) := by
  refine wp_fn rfl ?_
  walk_at "wp"
  rename_i r _ r1 r2 p
  obtain ⟨d, hd, e⟩ := atI_mem r1 r2
  exact ⟨d, e, hd, p⟩
theorem potB_wp {g : List Cell} {ns : List Int} {k : Int} (h0 : 0 ≤ k) (h1 : k < 1000000) : WR (q_potv [.sc ns, .int k] g) fun d g' => d = .g g.length ∧ PotB g' g.length 524288 := by
  refine wp_fn rfl ?_
  refine wp_seq (wp_asgN (Eq.refl 2) ?_)
  refine WR.mono (P := fun d g1 => g1 = g ∧ ∃ cell, d = .int cell) ?_ fun d g1 ⟨e1, cell, e2⟩ => ?_
  · walk_at "wp"
    · obtain ⟨z, hz, e⟩ := atI_mem (ds := ns) h0 (by assumption)
      exact ⟨.int z, by show Option.map _ _ = _; rw [e]; rfl, rfl, _, rfl⟩
    · exact ⟨_, rfl⟩
  · subst e1; subst e2
    have hl : ∀ c : Cell, (g1 ++ [c])[g1.length]? = some c := fun c => by simp
    walk_at "wp"
    all_goals exact ⟨_, _, _, hl _, Int.mul_nonneg (Int.emod_nonneg _ (by decide)) (by decide), ⟨Int.emod_nonneg _ (by decide), Int.lt_trans (Int.emod_lt_of_pos _ (by decide)) (by decide)⟩, by decide, by decide⟩
theorem two_wp {g : List Cell} {k : Int} (h0 : 0 ≤ k) (h1 : k < 1000000) : WR (q_two [.int k] g) fun d g' => g' = g ∧ d = .int (2 ^ k.toNat) := by
  refine wp_fn rfl ?_
  walk_at "wp"
  refine wp_forL (fun i e g' => g' = g ∧ ∃ a, e = [.v (.int k), .v (.int (2 ^ i)), a]) ⟨rfl, _, rfl⟩ ?_ ?_
  · rintro i d e g1 hd ⟨rfl, a, rfl⟩
    obtain ⟨hi, rfl⟩ := rngL_get hd
    refine ⟨_, rfl, ?_⟩
    walk_at "wp"
    exact ⟨_, by rw [Int.pow_succ]; rfl⟩
  · rintro e g1 ⟨rfl, a, rfl⟩
    walk_at "wp"
    simp
local macro_rules | `(tactic| walk_at "call") => `(tactic| (with_reducible show WR (q_two _ _) _; with_reducible refine WR.eqv (two_wp (by walk_at "om") (by walk_at "om")) ?_))
theorem two_nat {g : List Cell} {n : Nat} (h1 : n < 1000000) : WR (q_two [.int (n : Nat)] g) fun d g' => g' = g ∧ d = .int (2 ^ n) := by
  have := two_wp (g := g) (k := n) (by omega) (by omega)
  rwa [Int.toNat_natCast] at this
local macro_rules | `(tactic| walk_at "call") => `(tactic| (with_reducible show WR (q_two _ _) _; with_reducible refine WR.eqv (two_nat (by walk_at "om")) ?_))
theorem two_nat0 {g : List Cell} {n : Nat} (h1 : n < 1000000) : WR (q_two [.int (0 + (n : Int))] g) fun d g' => g' = g ∧ d = .int (2 ^ n) := by
  rw [Int.zero_add]
  exact two_nat h1
local macro_rules | `(tactic| walk_at "call") => `(tactic| (with_reducible show WR (q_two _ _) _; with_reducible refine WR.eqv (two_nat0 (by walk_at "om")) ?_))
theorem ofB_int {g : List Cell} {n B : Nat} {ds : List D} (lo hi : Int) (h : PotB g n B) (hB : 1 ≤ B) (hk : 0 < ds.length) (hk2 : ds.length ≤ 16777216) (hall : IntsIn lo hi ds) : WR (q_of [.g n, .lst ds] g) fun d g' => ∃ k, d = .int k ∧ (lo ≤ k ∧ k ≤ hi) ∧ PotB g' n (B - 1) :=
  (ofB_wp h hB hk hk2).mono fun d g' ⟨hd, hp⟩ => let ⟨k, e, h1, h2⟩ := hall d hd; ⟨k, e, ⟨h1, h2⟩, hp⟩
theorem livesB_wp {g : List Cell} {n B : Nat} {m gr : Int} (h : PotB g n B) (hB : 200 ≤ B) (h1 : 1 ≤ m) (h2 : m ≤ 61) (g0 : 0 ≤ gr) (g1 : gr ≤ 1000000000000000000) : WR (q_lives [.g n, .int m, .int gr] g) fun d g' => ∃ L, d = lvD L ∧ L.length = m.toNat ∧ Acc L 1000000000000000000 ∧ PotB g' n (B - 200) := by
  refine wp_fn rfl ?_
  walk_at "wp"
  refine (ofB_int (B := B - 1) 0 1000000000000000000 (by assumption) (by omega) (by walk_at "om") (by walk_at "om") (by walk_at "ints")).mono fun d g2 ⟨k, e, hk, hp⟩ => ?_
  subst e
  walk_at "wp"
  refine wp_forL (fun i e g' => i ≤ m.toNat ∧ PotB g' n (B - 2 - 3 * i) ∧ ∃ (L : List Lf) (h : Int) (a b c : Ev.Slot), e = [.v (.g n), .v (.int m), .v (.int gr), a, .own (L.map lfD), .v (.int h), b, c] ∧ L.length = i ∧ Acc L h ∧ 0 ≤ h ∧ h ≤ 1000000000000000000) ⟨by omega, hp.less (by omega), [], _, _, _, _, rfl, rfl, Acc.nil _, hk.1, hk.2⟩ ?_ ?_
  · rintro i d e g3 hd ⟨hi, hp, L, h, a, b, c, rfl, hL, hA, h0, h1⟩
    obtain ⟨hi, rfl⟩ := rngL_get hd
    refine ⟨_, rfl, ?_⟩
    show WS _ _ _ _ _
    have hsz : (2 : Int) ^ i ≤ 2 ^ 60 := pow_le (by omega)
    have hsz0 := pow_nn i
    have : (2 : Int) ^ 60 = 1152921504606846976 := by decide
    walk_at "wp"
    refine (ofB_int (B := B - 2 - 3 * i - 2) 0 10000000000000000000 (by assumption) (by omega) (by walk_at "om") (by walk_at "om") (by walk_at "ints")).mono fun d g2 ⟨k, e, hk, hp⟩ => ?_
    subst e
    walk_at "wp"
    have hz : Acc (L ++ [some (min (h + k) 1000000000000000000)]) (min (h + k) 1000000000000000000) := hA.push (by omega) (by omega)
    rw [map_push]
    exact ⟨_, _, _, _, _, rfl, by walk_at "om", hz, by omega, by omega⟩
  · rintro e g3 ⟨_, hp, L, h, a, b, c, rfl, hL, hA, h0, h1⟩
    rw [rngL_length] at hp hL
    walk_at "wp"
    exact ⟨hA.mono h1, hp.less (by omega)⟩
theorem endedB_wp {g : List Cell} {n B : Nat} {L : List Lf} (h : PotB g n B) (hB : 1 ≤ B) (hL : Given L) : WR (q_ended [.g n, lvD L] g) fun d g' => ∃ L', d = lvD L' ∧ L'.length = L.length ∧ Given L' ∧ PotB g' n (B - 1) := by
  have h1 := hL.ne
  have h2 := hL.most
  refine wp_fn rfl ?_
  walk_at "wp"
  · rw [cut_init]
    refine add2_lv_non (by walk_at "om") ?_
    exact ⟨_, rfl, by walk_at "om", hL.ended, by assumption⟩
  · assumption
def q_enough : List D → List Cell → R D := fnM 2 2 (retS (orV (opM isND (seeM 0) (conM .non)) (opM geD (seeM 0) (seeM 1))))
def q_index : List D → List Cell → R D := fnM 2 4 (seqS (forS (enumIt (consM (varM 0) (nilM))) (tgT 2 (tgs1 (tgN 2) (tgs1 (tgN 3) (tgs0))))
    (ifS (boolM (callM 2 q_enough (consM (varM 3) (consM (opM addD (seeM 1) (callM 1 q_two (consM (varM 2) (nilM)))) (nilM)))))
    (retS (varM 2))
    (skipS)))
    (retS (conM .non)))
def q_worst : List D → List Cell → R D := fnM 2 3 (seqS (asgS (callM 2 q_index (consM (varM 0) (consM (varM 1) (nilM)))) (tgN 2))
    (retS (ifV (boolM (opM isND (seeM 2) (conM .non))) (conM .non) (opM subD (callM 1 q_two (consM (varM 2) (nilM))) (conM (.int 1))))))
theorem enough_wp {g : List Cell} {l : Lf} {n : Int} : WR (q_enough [lfD l, .int n] g) fun d g' => g' = g ∧ d = .bl (decide (LeL (some n) l)) := by
  refine wp_fn rfl ?_
  cases l with
  | none =>
    simp only [lfD]
    walk_at "wp"
    rw [decide_eq_true (LeL.top _)]
  | some m =>
    have e : LeL (some n) (some m) ↔ n ≤ m := Iff.rfl
    simp only [lfD]
    walk_at "wp"
    · rename_i q; rw [decide_eq_true (e.mpr q)]
    · rename_i q; rw [decide_eq_false fun z => q (e.mp z)]
local macro_rules | `(tactic| walk_at "call") => `(tactic| (with_reducible show WR (q_enough _ _) _; with_reducible refine WR.eqv enough_wp ?_))
def natD : Option Nat → D
  | none => .non
  | some n => .int (n : Nat)
theorem index_wp {g : List Cell} {L : List Lf} {a : Int} (h2 : L.length ≤ 100000) : WR (q_index [lvD L, .int a] g) fun d g' => g' = g ∧ d = natD (least (en L a) L.length) := by
  refine wp_fn rfl ?_
  walk_at "wp"
  refine wp_forL (fun i e g' => g' = g ∧ (∃ x y, e = [.v (lvD L), .v (.int a), x, y]) ∧ ∀ j, j < i → en L a j = false) ⟨rfl, ⟨_, _, rfl⟩, fun j hj => by omega⟩ ?_ ?_
  · rintro i d e g1 hd ⟨e1, ⟨x, y, rfl⟩, hb⟩
    subst e1
    obtain ⟨hi, rfl⟩ := enum_lv hd
    refine ⟨_, rfl, ?_⟩
    show WS (ifS _ _ _ [.v (lvD L), .v (.int a), .v (.int (i : Nat)), .v (lfD (at0 L i))] _) _ _ _ _
    walk_at "wp"
    · rename_i q
      rw [least_some.mpr ⟨hi, decide_eq_true q, hb⟩]
      rfl
    · rename_i q
      refine ⟨⟨_, _, rfl⟩, fun j hj => ?_⟩
      by_cases w : j = i
      · subst w; exact decide_eq_false q
      · exact hb j (by omega)
  · rintro e g1 ⟨e1, ⟨x, y, rfl⟩, hb⟩
    subst e1
    rw [enumL_length, List.length_map] at hb
    walk_at "wp"
    rw [least_none.mpr hb]
    rfl
local macro_rules | `(tactic| walk_at "call") => `(tactic| (with_reducible show WR (q_index _ _) _; with_reducible refine WR.eqv (index_wp (by walk_at "om")) ?_))
theorem index_some {g : List Cell} {L : List Lf} {a : Int} {j : Nat} (h2 : L.length ≤ 100000) (h : least (en L a) L.length = some j) : WR (q_index [lvD L, .int a] g) fun d g' => g' = g ∧ d = .int (j : Nat) := by
  have := index_wp (g := g) (a := a) h2
  rwa [h] at this
theorem index_none {g : List Cell} {L : List Lf} {a : Int} (h2 : L.length ≤ 100000) (h : least (en L a) L.length = none) : WR (q_index [lvD L, .int a] g) fun d g' => g' = g ∧ d = .non := by
  have := index_wp (g := g) (a := a) h2
  rwa [h] at this
local macro_rules | `(tactic| walk_at "call") => `(tactic| (with_reducible show WR (q_index _ _) _; with_reducible refine WR.eqv (index_some (by walk_at "om") (by assumption)) ?_))
local macro_rules | `(tactic| walk_at "call") => `(tactic| (with_reducible show WR (q_index _ _) _; with_reducible refine WR.eqv (index_none (by walk_at "om") (by assumption)) ?_))
theorem worst_wp {g : List Cell} {L : List Lf} {a : Int} (h2 : L.length ≤ 100000) : WR (q_worst [lvD L, .int a] g) fun d g' => g' = g ∧ d = lfD (worstL L a) := by
  unfold worstL
  have hi := index_wp (g := g) (a := a) h2
  refine wp_fn rfl ?_
  cases e : least (en L a) L.length with
  | none =>
    rw [e] at hi
    refine wp_seq (wp_asgN rfl ?_)
    refine wp_call (wp_cons (wp_var rfl (wp_cons (wp_var rfl (wp_nil ⟨rfl, WR.eqv hi ?_⟩)))))
    unfold natD
    walk_at "wp"
    rfl
  | some j =>
    have := (least_some.mp e).1
    rw [e] at hi
    refine wp_seq (wp_asgN rfl ?_)
    refine wp_call (wp_cons (wp_var rfl (wp_cons (wp_var rfl (wp_nil ⟨rfl, WR.eqv hi ?_⟩)))))
    unfold natD
    walk_at "wp"
    rfl
local macro_rules | `(tactic| walk_at "call") => `(tactic| (with_reducible show WR (q_worst _ _) _; with_reducible refine WR.eqv (worst_wp (by walk_at "om")) ?_))

def p_LongRule_init : List D → List Cell → R D := superM 3 (inStar p_Rule_init) (callM 1 p_shortest (consM (varM 1) (nilM)))
def p_life_of : List D → List Cell → R D := fnM 2 2 (retS (ifV (orB (boolM (opM isND (seeM 1) (conM .non))) (boolM (opM geD (seeM 1) (bltM lenF (consM (seeM 0) (nilM)))))) (opM ixD (seeM 0) (unM negD (conM (.int 1)))) (opM ixD (seeM 0) (seeM 1))))
def p_pairs_of : List D → List Cell → R D := fnM 2 4 (seqS (asgS (bltM maxF (consM (bltM lenF (consM (seeM 0) (nilM))) (consM (bltM lenF (consM (seeM 1) (nilM))) (nilM)))) (tgN 2))
    (retS (valM (lcM (rngIt (consM (seeM 2) (nilM))) (tgN 3) (yesB) (tupM (consM (callM 2 p_life_of (consM (varM 0) (consM (varM 3) (nilM)))) (consM (callM 2 p_life_of (consM (varM 1) (consM (varM 3) (nilM)))) (nilM)))) [3]))))
def p_is_at_least : List D → List Cell → R D := fnM 2 2 (retS (orV (opM isND (seeM 0) (conM .non)) (andV (opM notND (seeM 1) (conM .non)) (opM geD (seeM 0) (seeM 1)))))
def p_lesser : List D → List Cell → R D := fnM 2 2 (retS (ifV (boolM (callM 2 p_is_at_least (consM (varM 0) (consM (varM 1) (nilM))))) (varM 1) (varM 0)))
def p_greater : List D → List Cell → R D := fnM 2 2 (retS (ifV (boolM (callM 2 p_is_at_least (consM (varM 0) (consM (varM 1) (nilM))))) (varM 0) (varM 1)))
def p_lesser_lives : List D → List Cell → R D := fnM 2 4 (retS (bltM tupF (consM (valM (lcM (seqIt (callM 2 p_pairs_of (consM (varM 0) (consM (varM 1) (nilM))))) (tgT 2 (tgs1 (tgN 2) (tgs1 (tgN 3) (tgs0)))) (yesB) (callM 2 p_lesser (consM (varM 2) (consM (varM 3) (nilM)))) [2, 3])) (nilM))))
def p_greater_lives : List D → List Cell → R D := fnM 2 4 (retS (bltM tupF (consM (valM (lcM (seqIt (callM 2 p_pairs_of (consM (varM 0) (consM (varM 1) (nilM))))) (tgT 2 (tgs1 (tgN 2) (tgs1 (tgN 3) (tgs0)))) (yesB) (callM 2 p_greater (consM (varM 2) (consM (varM 3) (nilM)))) [2, 3])) (nilM))))
def p_longer_lives : List D → List Cell → R D := fnM 2 3 (retS (bltM tupF (consM (valM (lcM (seqIt (varM 0)) (tgN 2) (yesB) (ifV (boolM (opM isND (seeM 2) (conM .non))) (conM .non) (opM addD (seeM 2) (seeM 1))) [2])) (nilM))))
def p_Rule_and : List D → List Cell → R D := fnM 2 2 (retS (mkM 1 (p_LongRule_init) (consM (callM 2 p_lesser_lives (consM (unM (fldD 2) (varM 0)) (consM (unM (fldD 2) (varM 1)) (nilM)))) (nilM))))
def p_Rule_or : List D → List Cell → R D := fnM 2 2 (retS (mkM 1 (p_LongRule_init) (consM (callM 2 p_greater_lives (consM (unM (fldD 2) (varM 0)) (consM (unM (fldD 2) (varM 1)) (nilM)))) (nilM))))
def p_Rule_add : List D → List Cell → R D := fnM 2 2 (retS (mkM 1 (p_LongRule_init) (consM (callM 2 p_longer_lives (consM (unM (fldD 2) (varM 0)) (consM (varM 1) (nilM)))) (nilM))))
def p_changed : List D → List Cell → R D := fnM 3 3 (retS (two (kRu p_Rule_and) (varM 1) (two (kRuI p_Rule_add) (varM 0) (varM 2))))
def p_Rule_eq : List D → List Cell → R D := fnM 2 2 (retS (andV (unM (isiRu 0) (varM 1)) (opM eqA (unM (fldD 2) (varM 0)) (unM (fldD 2) (varM 1)))))
def p_are_within : List D → List Cell → R D := fnM 2 4 (retS (bltM allF (consM (valM (lcM (seqIt (callM 2 p_pairs_of (consM (varM 0) (consM (varM 1) (nilM))))) (tgT 2 (tgs1 (tgN 2) (tgs1 (tgN 3) (tgs0)))) (yesB) (callM 2 p_is_at_least (consM (varM 3) (consM (varM 2) (nilM)))) [2, 3])) (nilM))))
def p_Rule_le : List D → List Cell → R D := fnM 2 2 (retS (callM 2 p_are_within (consM (unM (fldD 2) (varM 0)) (consM (unM (fldD 2) (varM 1)) (nilM)))))
def p_Rule_len : List D → List Cell → R D := fnM 1 1 (retS (bltM lenF (consM (unM (fldD 2) (varM 0)) (nilM))))
def p_Rule_getitem : List D → List Cell → R D := fnM 2 2 (seqS (ifS (notB (boolM (callM 1 (fun ds g => p_is_integer (ds ++ [.non]) g) (consM (varM 1) (nilM)))))
    (badS)
    (skipS))
    (retS (callM 2 p_life_of (consM (unM (fldD 2) (varM 0)) (consM (varM 1) (nilM))))))
def p_settled : List D → List Cell → R D := fnM 2 4 (seqS (asgS (conM (.int 0)) (tgN 2))
    (seqS (forS (rngIt (consM (bltM maxF (consM (ruLen p_Rule_len (consM (varM 0) (nilM))) (consM (ruLen p_Rule_len (consM (varM 1) (nilM))) (nilM)))) (nilM))) (tgN 3)
    (ifS (boolM (opM notND (two (kRuX p_Rule_getitem) (varM 0) (varM 3)) (conM .non)))
    (seqS (ifS (boolM (opM isND (two (kRuX p_Rule_getitem) (varM 1) (varM 3)) (conM .non)))
    (retS (conM .non))
    (skipS))
    (asgS (bltM maxF (consM (seeM 2) (consM (opM subD (two (kRuX p_Rule_getitem) (varM 1) (varM 3)) (two (kRuX p_Rule_getitem) (varM 0) (varM 3))) (nilM)))) (tgN 2)))
    (skipS)))
    (retS (varM 2))))
def p_worst_of : List D → List Cell → R D := fnM 2 4 (seqS (forS (enumIt (consM (varM 0) (nilM))) (tgT 2 (tgs1 (tgN 2) (tgs1 (tgN 3) (tgs0))))
    (ifS (boolM (callM 2 p_is_at_least (consM (varM 3) (consM (opM addD (seeM 1) (callM 1 p_size_of (consM (varM 2) (nilM)))) (nilM)))))
    (retS (opM subD (callM 1 p_size_of (consM (varM 2) (nilM))) (conM (.int 1))))
    (skipS)))
    (retS (conM .non)))
def p_Rule_call : List D → List Cell → R D := fnM 2 2 (retS (callM 2 p_worst_of (consM (unM (fldD 2) (varM 0)) (consM (varM 1) (nilM)))))
def p_worst : List D → List Cell → R D := fnM 2 2 (retS (ruCall 2 p_Rule_call (varM 0) (consM (varM 1) (nilM))))
def p_rule_from : List D → List Cell → R D := fnM 1 1 (retS (mkM 1 (p_LongRule_init) (consM (varM 0) (nilM))))

theorem life_of_wp {g : List Cell} {L : List Lf} {i : Int} (h : 0 < L.length) (h0 : 0 ≤ i) : WR (p_life_of [lvD L, .int i] g) fun d g' => g' = g ∧ d = lfD (fl L i.toNat) := by
  refine wp_fn rfl ?_
  walk_at "wp"
  · rename_i a
    rw [fl_last (by omega)]
  · rename_i a
    rw [fl_lt (by omega)]
local macro_rules | `(tactic| walk_at "call") => `(tactic| (with_reducible show WR (p_life_of _ _) _; with_reducible refine WR.eqv (life_of_wp (by walk_at "om") (by walk_at "om")) ?_))
theorem is_at_least_wp {g : List Cell} {a b : Lf} : WR (p_is_at_least [lfD a, lfD b] g) fun d g' => g' = g ∧ d = .bl (decide (LeL b a)) := by
  refine wp_fn rfl ?_
  cases a <;> cases b <;> unfold lfD <;> walk_at "wp"
  all_goals first | rfl | (apply congrArg; first | exact (decide_eq_true (show _ ≤ _ by assumption)).symm | exact (decide_eq_false (show ¬ _ ≤ _ by assumption)).symm)
local macro_rules | `(tactic| walk_at "call") => `(tactic| (with_reducible show WR (p_is_at_least _ _) _; with_reducible refine WR.eqv is_at_least_wp ?_))
theorem is_at_least_int {g : List Cell} {a : Lf} {n : Int} : WR (p_is_at_least [lfD a, .int n] g) fun d g' => g' = g ∧ d = .bl (decide (LeL (some n) a)) := is_at_least_wp (b := some n)
local macro_rules | `(tactic| walk_at "call") => `(tactic| (with_reducible show WR (p_is_at_least _ _) _; with_reducible refine WR.eqv is_at_least_int ?_))
theorem lesser_wp {g : List Cell} {a b : Lf} : WR (p_lesser [lfD a, lfD b] g) fun d g' => g' = g ∧ d = lfD (minL a b) := by
  refine wp_fn rfl ?_
  walk_at "wp"
  · rename_i h
    rw [minL, if_pos h]
  · rename_i h
    rw [minL, if_neg h]
local macro_rules | `(tactic| walk_at "call") => `(tactic| (with_reducible show WR (p_lesser _ _) _; with_reducible refine WR.eqv lesser_wp ?_))
theorem greater_wp {g : List Cell} {a b : Lf} : WR (p_greater [lfD a, lfD b] g) fun d g' => g' = g ∧ d = lfD (maxL a b) := by
  refine wp_fn rfl ?_
  walk_at "wp"
  · rename_i h
    rw [maxL, if_pos h]
  · rename_i h
    rw [maxL, if_neg h]
local macro_rules | `(tactic| walk_at "call") => `(tactic| (with_reducible show WR (p_greater _ _) _; with_reducible refine WR.eqv greater_wp ?_))
/-- pairs of two lives -/
abbrev prD (p : Lf × Lf) : D := .tup [lfD p.1, lfD p.2]
theorem pairs_of_wp {g : List Cell} {L M : List Lf} (hL : 0 < L.length) (hM : 0 < M.length) (l1 : L.length ≤ 1000000) (l2 : M.length ≤ 1000000) : WR (p_pairs_of [lvD L, lvD M] g) fun d g' => g' = g ∧ d = .lst (((List.range (max L.length M.length)).map fun i => (fl L i, fl M i)).map prD) := by
  refine wp_fn rfl ?_
  walk_at "wp"
  rw [show (max (L.length : Int) (M.length : Int)).toNat = max L.length M.length by omega]
  refine lcMap (α := Nat) (f := fun i => .int (0 + (i : Int))) (fun i => prD (fl L i, fl M i)) ?_ ?_
  · intro i x hx
    refine ⟨_, rfl, ?_⟩
    show WR (tupM _ [_, _, _, .v (.int (0 + (x : Int)))] _) _
    walk_at "wp"
    rw [show (0 + (x : Int)).toNat = x by omega]
  · walk_at "wp"
    rw [List.map_map]
    rfl
local macro_rules | `(tactic| walk_at "call") => `(tactic| (with_reducible show WR (p_pairs_of _ _) _; with_reducible refine WR.eqv (pairs_of_wp (by walk_at "om") (by walk_at "om") (by walk_at "om") (by walk_at "om")) ?_))
theorem lesser_lives_wp {g : List Cell} {L M : List Lf} (hL : 0 < L.length) (hM : 0 < M.length) (l1 : L.length ≤ 1000000) (l2 : M.length ≤ 1000000) : WR (p_lesser_lives [lvD L, lvD M] g) fun d g' => g' = g ∧ d = lvD (joinW minL L M) := by
  refine wp_fn rfl ?_
  walk_at "wp"
  refine lcMap (fun p : Lf × Lf => lfD (minL p.1 p.2)) ?_ ?_
  · rintro i ⟨a, b⟩ hx
    refine ⟨_, rfl, ?_⟩
    show WR (callM 2 p_lesser _ [_, _, .v (lfD a), .v (lfD b)] _) _
    walk_at "wp"
  · walk_at "wp"
    unfold joinW
    rw [List.map_map]
    show _ = D.tup _
    rw [List.map_map]
    rfl
local macro_rules | `(tactic| walk_at "call") => `(tactic| (with_reducible show WR (p_lesser_lives _ _) _; with_reducible refine WR.eqv (lesser_lives_wp (by walk_at "om") (by walk_at "om") (by walk_at "om") (by walk_at "om")) ?_))
theorem greater_lives_wp {g : List Cell} {L M : List Lf} (hL : 0 < L.length) (hM : 0 < M.length) (l1 : L.length ≤ 1000000) (l2 : M.length ≤ 1000000) : WR (p_greater_lives [lvD L, lvD M] g) fun d g' => g' = g ∧ d = lvD (joinW maxL L M) := by
  refine wp_fn rfl ?_
  walk_at "wp"
  refine lcMap (fun p : Lf × Lf => lfD (maxL p.1 p.2)) ?_ ?_
  · rintro i ⟨a, b⟩ hx
    refine ⟨_, rfl, ?_⟩
    show WR (callM 2 p_greater _ [_, _, .v (lfD a), .v (lfD b)] _) _
    walk_at "wp"
  · walk_at "wp"
    unfold joinW
    rw [List.map_map]
    show _ = D.tup _
    rw [List.map_map]
    rfl
local macro_rules | `(tactic| walk_at "call") => `(tactic| (with_reducible show WR (p_greater_lives _ _) _; with_reducible refine WR.eqv (greater_lives_wp (by walk_at "om") (by walk_at "om") (by walk_at "om") (by walk_at "om")) ?_))
theorem longer_lives_wp {g : List Cell} {L : List Lf} {t : Int} (l1 : L.length ≤ 1000000) : WR (p_longer_lives [lvD L, .int t] g) fun d g' => g' = g ∧ d = lvD (L.map (addL t)) := by
  refine wp_fn rfl ?_
  walk_at "wp"
  refine lcMap (fun a : Lf => lfD (addL t a)) ?_ ?_
  · rintro i a hx
    refine ⟨_, rfl, ?_⟩
    show WR (ifV _ _ _ [_, .v (.int t), .v (lfD a)] _) _
    cases a <;> (unfold lfD; walk_at "wp") <;> rfl
  · walk_at "wp"
    show _ = D.tup _
    rw [List.map_map]
    rfl
local macro_rules | `(tactic| walk_at "call") => `(tactic| (with_reducible show WR (p_longer_lives _ _) _; with_reducible refine WR.eqv (longer_lives_wp (by walk_at "om")) ?_))
theorem long_init_wp {g : List Cell} {L : List Lf} (h : 0 < L.length) (h1 : L.length ≤ 99999) : WR (p_LongRule_init [lvD L] g) fun d g' => g' = g ∧ d = lvD (short L) := by
  refine wp_super ?_
  refine WR.eqv (init_wp (L := [some 0]) (Acc.given (h := 0) ((Acc.nil 0).push (by decide) (by decide)) (by decide) (by decide) (by decide))) ?_
  show WR (callM 1 p_shortest _ [_, .v (lvD L), _] g) _
  walk_at "wp"
local macro_rules | `(tactic| walk_at "call") => `(tactic| (with_reducible show WR (p_LongRule_init _ _) _; with_reducible refine WR.eqv (long_init_wp (by walk_at "om") (by walk_at "om")) ?_))
theorem rule_from_wp {g : List Cell} {L : List Lf} (h : 0 < L.length) (h1 : L.length ≤ 99999) : WR (p_rule_from [lvD L] g) fun d g' => g' = g ∧ d = ruD 1 (short L) := by
  refine wp_fn rfl ?_
  walk_at "wp"
local macro_rules | `(tactic| walk_at "call") => `(tactic| (with_reducible show WR (p_rule_from _ _) _; with_reducible refine WR.eqv (rule_from_wp (by walk_at "om") (by walk_at "om")) ?_))
theorem rule_and_wp {g : List Cell} {c c' : Nat} {L M : List Lf} (hc : c < 2) (hc' : c' < 2) (hL : Rul L) (hM : Rul M) : WR (p_Rule_and [ruD c L, ruD c' M] g) fun d g' => g' = g ∧ d = ruD 1 (andR L M) := by
  have h1 := hL.ne
  have h2 := hM.ne
  have h3 := hL.most
  have h4 := hM.most
  refine wp_fn rfl ?_
  walk_at "wp"
  refine WR.eqv (long_init_wp (by rw [joinW_len]; omega) (by rw [joinW_len]; omega)) ?_
  exact ⟨rfl, rfl⟩
local macro_rules | `(tactic| walk_at "call") => `(tactic| (with_reducible show WR (p_Rule_and _ _) _; with_reducible refine WR.eqv (rule_and_wp (by first | assumption | decide) (by first | assumption | decide) (by walk_at "rul") (by walk_at "rul")) ?_))
theorem rule_or_wp {g : List Cell} {c c' : Nat} {L M : List Lf} (hc : c < 2) (hc' : c' < 2) (hL : Rul L) (hM : Rul M) : WR (p_Rule_or [ruD c L, ruD c' M] g) fun d g' => g' = g ∧ d = ruD 1 (orR L M) := by
  have h1 := hL.ne
  have h2 := hM.ne
  have h3 := hL.most
  have h4 := hM.most
  refine wp_fn rfl ?_
  walk_at "wp"
  refine WR.eqv (long_init_wp (by rw [joinW_len]; omega) (by rw [joinW_len]; omega)) ?_
  exact ⟨rfl, rfl⟩
local macro_rules | `(tactic| walk_at "call") => `(tactic| (with_reducible show WR (p_Rule_or _ _) _; with_reducible refine WR.eqv (rule_or_wp (by first | assumption | decide) (by first | assumption | decide) (by walk_at "rul") (by walk_at "rul")) ?_))
theorem rule_add_wp {g : List Cell} {c : Nat} {L : List Lf} {t : Int} (hc : c < 2) (hL : Rul L) : WR (p_Rule_add [ruD c L, .int t] g) fun d g' => g' = g ∧ d = ruD 1 (addR L t) := by
  have h1 := hL.ne
  have h3 := hL.most
  refine wp_fn rfl ?_
  walk_at "wp"
  rfl
local macro_rules | `(tactic| walk_at "call") => `(tactic| (with_reducible show WR (p_Rule_add _ _) _; with_reducible refine WR.eqv (rule_add_wp (by first | assumption | decide) (by walk_at "rul")) ?_))
local macro_rules | `(tactic| walk_at "rul") => `(tactic| first | assumption | (with_reducible apply Given.rul; assumption) | (with_reducible apply andR_rul <;> walk_at "rul") | (with_reducible apply orR_rul <;> walk_at "rul") | (with_reducible apply addR_rul; (walk_at "rul"); (walk_at "om")))
/-- the rule behind a change -/
def chR (L M : List Lf) (t : Int) : List Lf := andR M (addR L t)
theorem changed_wp {g : List Cell} {c c' : Nat} {L M : List Lf} {t : Int} (hc : c < 2) (hc' : c' < 2) (hL : Rul L) (hM : Rul M) (ht : 0 ≤ t) : WR (p_changed [ruD c L, ruD c' M, .int t] g) fun d g' => g' = g ∧ d = ruD 1 (chR L M t) := by
  refine wp_fn rfl ?_
  walk_at "wp"
  rfl
local macro_rules | `(tactic| walk_at "call") => `(tactic| (with_reducible show WR (p_changed _ _) _; with_reducible refine WR.eqv (changed_wp (by first | assumption | decide) (by first | assumption | decide) (by walk_at "rul") (by walk_at "rul") (by walk_at "om")) ?_))
theorem chR_rul {L M : List Lf} {t : Int} (hL : Rul L) (hM : Rul M) (ht : 0 ≤ t) : Rul (chR L M t) := andR_rul hM (addR_rul hL ht)
local macro_rules | `(tactic| walk_at "rul") => `(tactic| (with_reducible apply chR_rul; (walk_at "rul"); (walk_at "rul"); (walk_at "om")))
theorem fl_chR {L M : List Lf} {t : Int} (hL : 0 < L.length) (hM : 0 < M.length) (j : Nat) : fl (chR L M t) j = minL (fl M j) (addL t (fl L j)) := by
  unfold chR; rw [fl_andR hM, fl_addR hL]

/-! == -/
theorem eqv_map_lf : ∀ (L M : List Lf), PyData.eqvAll (toPds (L.map lfD)) (toPds (M.map lfD)) = decide (L = M)
  | [], [] => rfl
  | [], _ :: _ => rfl
  | _ :: _, [] => rfl
  | a :: L, b :: M => by
    show (PyData.eqv (toPd (lfD a)) (toPd (lfD b)) && PyData.eqvAll (toPds (L.map lfD)) (toPds (M.map lfD))) = _
    rw [eqv_map_lf L M]
    have h : PyData.eqv (toPd (lfD a)) (toPd (lfD b)) = decide (a = b) := by
      cases a <;> cases b
      · rfl
      · rfl
      · rfl
      · rename_i i j
        show (i == j) = _
        by_cases q : i = j
        · subst q; simp
        · rw [decide_eq_false (fun z => q (Option.some.inj z)), beq_eq_false_iff_ne.mpr q]
    rw [h]
    by_cases q : a = b
    · subst q
      by_cases w : L = M
      · subst w; simp
      · rw [decide_eq_false w, decide_eq_false (fun z => w (List.cons.inj z).2)]; simp
    · rw [decide_eq_false q, decide_eq_false (fun z => q (List.cons.inj z).1)]; simp
theorem okds_lf : ∀ (L : List Lf) (k : Nat), okds (L.map lfD) k = true
  | [], _ => rfl
  | a :: L, k => by
    simp only [List.map_cons, okds]
    rw [okds_lf L k]
    cases a <;> rfl
theorem eqA_lv (L M : List Lf) (g : List Cell) : eqA (lvD L) (lvD M) g = some (.bl (decide (L = M))) := by
  have h1 : ∀ L : List Lf, okd (lvD L) 64 = true := fun L => by
    simp only [okd, okds_lf]
    rfl
  have hP : eqP (lvD L) (lvD M) g = some (.bl (decide (L = M))) := by
    unfold eqP
    rw [if_pos ⟨h1 L, h1 M⟩]
    unfold eqd
    show some (D.bl (PyData.eqvAll (toPds (L.map lfD)) (toPds (M.map lfD)))) = _
    rw [eqv_map_lf]
  unfold eqA orF
  exact hP
theorem eq2_lv {L M : List Lf} {PB : Bool → List Cell → Prop} {g : List Cell} (h : Br (L = M) PB g) : Eq2 (lvD L) (lvD M) PB g := .inr ⟨_, eqA_lv L M g, h.dec⟩
local macro_rules | `(tactic| walk_at "ex") => `(tactic| with_reducible refine eq2_lv ?_)
theorem rule_eq_wp {g : List Cell} {c c' : Nat} {L M : List Lf} (hc : c < 2) (hc' : c' < 2) : WR (p_Rule_eq [ruD c L, ruD c' M] g) fun d g' => g' = g ∧ d = .bl (decide (L = M)) := by
  refine wp_fn rfl ?_
  walk_at "wp"
  all_goals first | (rename_i h; rw [decide_eq_true h]) | (rename_i h; rw [decide_eq_false h]) | skip
theorem kRuE_wp {g : List Cell} {c c' : Nat} {L M : List Lf} {neg : Bool} {P : D → List Cell → Prop} (hc : c < 2) (hc' : c' < 2) (h : P (.bl (if neg then !decide (L = M) else decide (L = M))) g) : WR (kRuE neg p_Rule_eq (ruD c L) (ruD c' M) g) P :=
  wp_kRuE hc hc' ⟨fun _ => WR.eqv (rule_eq_wp hc' hc) ⟨_, rfl, by rw [show decide (M = L) = decide (L = M) by by_cases q : L = M <;> simp [q, eq_comm]]; exact h⟩, fun _ => WR.eqv (rule_eq_wp hc hc') ⟨_, rfl, h⟩⟩
theorem kRuE_tt {g : List Cell} {c c' : Nat} {L M : List Lf} {PB : Bool → List Cell → Prop} (hc : c < 2) (hc' : c' < 2) (h : Br (L = M) PB g) : WR (kRuE false p_Rule_eq (ruD c L) (ruD c' M) g) fun d g1 => ∃ b, d = .bl b ∧ PB b g1 :=
  kRuE_wp hc hc' ⟨_, rfl, h.dec⟩
theorem Br.ndec {p : Prop} [Decidable p] {PB : Bool → List Cell → Prop} {g : List Cell} (h : Br (¬ p) PB g) : PB (!decide p) g := by
  by_cases q : p
  · rw [decide_eq_true q]; exact h.2 (fun z => z q)
  · rw [decide_eq_false q]; exact h.1 q
theorem kRuE_ff {g : List Cell} {c c' : Nat} {L M : List Lf} {PB : Bool → List Cell → Prop} (hc : c < 2) (hc' : c' < 2) (h : Br (L ≠ M) PB g) : WR (kRuE true p_Rule_eq (ruD c L) (ruD c' M) g) fun d g1 => ∃ b, d = .bl b ∧ PB b g1 :=
  kRuE_wp hc hc' ⟨_, rfl, Br.ndec h⟩
local macro_rules | `(tactic| walk_at "call") => `(tactic| (with_reducible show WR (kRuE _ _ _ _ _) _; with_reducible refine kRuE_wp (by first | assumption | decide) (by first | assumption | decide) ?_))
local macro_rules | `(tactic| walk_at "call") => `(tactic| (with_reducible show WR (kRuE _ _ _ _ _) _; with_reducible refine kRuE_tt (by first | assumption | decide) (by first | assumption | decide) ?_))
local macro_rules | `(tactic| walk_at "call") => `(tactic| (with_reducible show WR (kRuE _ _ _ _ _) _; with_reducible refine kRuE_ff (by first | assumption | decide) (by first | assumption | decide) ?_))
theorem are_within_wp {g : List Cell} {L M : List Lf} (hL : 0 < L.length) (hM : 0 < M.length) (l1 : L.length ≤ 1000000) (l2 : M.length ≤ 1000000) : WR (p_are_within [lvD L, lvD M] g) fun d g' => g' = g ∧ d = .bl (leR L M) := by
  refine wp_fn rfl ?_
  walk_at "wp"
  refine lcMap (fun p : Lf × Lf => .bl (decide (LeL p.1 p.2))) ?_ ?_
  · rintro i ⟨a, b⟩ hx
    refine ⟨_, rfl, ?_⟩
    show WR (callM 2 p_is_at_least _ [_, _, .v (lfD a), .v (lfD b)] _) _
    walk_at "wp"
  · walk_at "wp"
    unfold leR
    rw [List.all_map]
    rfl
local macro_rules | `(tactic| walk_at "call") => `(tactic| (with_reducible show WR (p_are_within _ _) _; with_reducible refine WR.eqv (are_within_wp (by walk_at "om") (by walk_at "om") (by walk_at "om") (by walk_at "om")) ?_))
theorem rule_le_wp {g : List Cell} {c c' : Nat} {L M : List Lf} (hc : c < 2) (hc' : c' < 2) (hL : Rul L) (hM : Rul M) : WR (p_Rule_le [ruD c L, ruD c' M] g) fun d g' => g' = g ∧ d = .bl (leR L M) := by
  have h1 := hL.ne
  have h2 := hM.ne
  have h3 := hL.most
  have h4 := hM.most
  refine wp_fn rfl ?_
  walk_at "wp"
local macro_rules | `(tactic| walk_at "call") => `(tactic| (with_reducible show WR (p_Rule_le _ _) _; with_reducible refine WR.eqv (rule_le_wp (by first | assumption | decide) (by first | assumption | decide) (by walk_at "rul") (by walk_at "rul")) ?_))
theorem rule_len_wp {g : List Cell} {c : Nat} {L : List Lf} (hc : c < 2) : WR (p_Rule_len [ruD c L] g) fun d g' => g' = g ∧ d = .int (L.length : Nat) := by
  refine wp_fn rfl ?_
  walk_at "wp"
local macro_rules | `(tactic| walk_at "call") => `(tactic| (with_reducible show WR (p_Rule_len _ _) _; with_reducible refine WR.eqv (rule_len_wp (by first | assumption | decide)) ?_))
theorem ruLen_ok {c : Nat} {L : List Lf} {g : List Cell} {P : D → List Cell → Prop} (hc : c < 2) (hl : L.length ≤ 1000000) (h : P (.int (L.length : Nat)) g) : ∃ c' d, [ruD c L] = [.ob c' d] ∧ c' < 2 ∧ WR (p_Rule_len [.ob c' d] g) fun x g2 => ∃ n, x = .int n ∧ (0 ≤ n ∧ n < 9223372036854775808) ∧ P (.int n) g2 :=
  ⟨c, _, rfl, hc, WR.eqv (rule_len_wp hc) ⟨_, rfl, by omega, h⟩⟩
local macro_rules | `(tactic| walk_at "ex") => `(tactic| with_reducible refine ruLen_ok (by first | assumption | decide) (by walk_at "om") ?_)
theorem is_integer_non {g : List Cell} {n : Int} : WR (p_is_integer [.int n, .non] g) fun d g' => g' = g ∧ d = .bl (decide (0 ≤ n)) := by
  refine wp_fn rfl ?_
  walk_at "wp"
  all_goals walk_at "dec"
theorem is_integer_dfl {g : List Cell} {n : Int} {P : D → List Cell → Prop} (h : P (.bl (decide (0 ≤ n))) g) : WR (p_is_integer ([.int n] ++ [.non]) g) P := WR.eqv is_integer_non h
local macro_rules | `(tactic| walk_at "call") => `(tactic| with_reducible refine is_integer_dfl ?_)
theorem rule_getitem_wp {g : List Cell} {c : Nat} {L : List Lf} {i : Int} (hc : c < 2) (hL : Rul L) (h0 : 0 ≤ i) : WR (p_Rule_getitem [ruD c L, .int i] g) fun d g' => g' = g ∧ d = lfD (fl L i.toNat) := by
  have h1 := hL.ne
  have h3 := hL.most
  refine wp_fn rfl ?_
  walk_at "wp"
local macro_rules | `(tactic| walk_at "call") => `(tactic| (with_reducible show WR (p_Rule_getitem _ _) _; with_reducible refine WR.eqv (rule_getitem_wp (by first | assumption | decide) (by walk_at "rul") (by walk_at "om")) ?_))
/-! repr of lives -/
structure LvOk (L : List Lf) : Prop where
  len : L.length ≤ 61
  lo : ∀ n, some n ∈ L → 0 ≤ n
  hi : ∀ n, some n ∈ L → n ≤ 1000000000000000000000000000000
theorem Rp.lf {a : Lf} {k : Nat} (h : ∀ n, a = some n → 0 ≤ n ∧ n ≤ 1000000000000000000000000000000) : Rp (lfD a) k 130 := by
  cases a with
  | none => exact Rp.non.le (by decide)
  | some n =>
    have := h n rfl
    exact Rp.int (by omega)
theorem Rp.lv {L : List Lf} {k : Nat} (h : LvOk L) : Rp (lvD L) (k + 1) 9000 := by
  refine (Rp.tup (Rps.map (n := 130) (k := k) fun x hx => Rp.lf fun n e => ⟨h.lo n (e ▸ hx), h.hi n (e ▸ hx)⟩)).le ?_
  have := h.len
  omega
theorem Given.lv {L : List Lf} (h : Given L) : LvOk L := ⟨h.most, h.nn, fun n hn => Int.le_trans (h.small n hn) (by decide)⟩
theorem Rul.lv {L : List Lf} {M : Int} (h : Rul L) (b : Bd M L) (hM : M ≤ 1000000000000000000000000000000) : LvOk L := ⟨h.most, h.nn, fun n hn => Int.le_trans (b n hn) hM⟩
local macro_rules | `(tactic| walk_at "rp") => `(tactic| repeat (first | with_reducible exact Rp.non | with_reducible exact Rp.bl | with_reducible exact Rps.nil | with_reducible exact Rp.lv (by first | assumption | (with_reducible apply Given.lv; assumption)) | with_reducible apply Rps.cons | with_reducible apply Rp.tup | with_reducible apply Rp.lst | with_reducible exact Rp.int (by walk_at "om") | assumption))
theorem eq2_rpr {d d' : D} {PB : Bool → List Cell → Prop} {g : List Cell} (h : d = d') (k : PB true g) : Eq2 (.str (toPd d).shown) (.str (toPd d').shown) PB g := by subst h; exact eq2_str k
theorem chR_bd {L M : List Lf} {A B t : Int} (hL : Rul L) (hM : Rul M) (ht : 0 ≤ t) (a : Bd A L) (b : Bd B M) : Bd (max B (A + t)) (chR L M t) := andR_bd hM (addR_rul hL ht) b (addR_bd hL a)
theorem andR_le {L M : List Lf} (hL : 0 < L.length) : leR (andR L M) L = true := leR_iff.mpr fun j => by rw [fl_andR hL]; exact minL_le_left _ _
theorem andR_comm {L M : List Lf} (hL : Rul L) (hM : Rul M) : andR L M = andR M L := (andR_rul hL hM).ext (andR_rul hM hL) fun j => by rw [fl_andR hL.ne, fl_andR hM.ne, minL_comm]
theorem orR_comm {L M : List Lf} (hL : Rul L) (hM : Rul M) : orR L M = orR M L := (orR_rul hL hM).ext (orR_rul hM hL) fun j => by rw [fl_orR hL.ne, fl_orR hM.ne, maxL_comm]
theorem addR_zero {L : List Lf} (hL : Rul L) : addR L 0 = L := (addR_rul hL (by decide)).ext hL fun j => by rw [fl_addR hL.ne, addL_zero]
theorem chR_zero {L M : List Lf} (hL : Rul L) (hM : Rul M) : chR L M 0 = andR L M := by unfold chR; rw [addR_zero hL, andR_comm hM hL]
theorem chR_self {L : List Lf} {t : Int} (hL : Rul L) (ht : 0 ≤ t) : chR L L t = L := (chR_rul hL hL ht).ext hL fun j => by
  rw [fl_chR hL.ne hL.ne]
  exact minL_eq_left (le_addL ht _)
theorem lvD_inj {L M : List Lf} (h : lvD L = lvD M) : L = M := by
  have h : L.map lfD = M.map lfD := D.tup.inj h
  exact (List.map_inj_right (fun x y => lfD_inj)).mp h
theorem chR_le {L M : List Lf} {t : Int} (hL : 0 < L.length) (hM : 0 < M.length) : leR (chR L M t) M = true := leR_iff.mpr fun j => by rw [fl_chR hL hM]; exact minL_le_left _ _
/-- all([.. for ..]), each turn true, told by the turn -/
theorem lcTn (I : Nat → List Cell → Prop) {tg : D → Ev.Env → Option Ev.Env} {a : M D} {e : Ev.Env} {g : List Cell} {PL : List D → List Cell → Prop} {ds : List D} (q : I 0 g)
    (h : ∀ (i : Nat) (d : D) (g : List Cell), ds[i]? = some d → I i g → ∃ e1, tg d e = some e1 ∧ WR (a e1 g) fun y g2 => y = .bl true ∧ I (i + 1) g2) (k : ∀ g, I ds.length g → PL (List.replicate ds.length (.bl true)) g) : WR (lcL tg yesB a e ds g) PL :=
  wp_lcL (fun n acc g => acc = List.replicate n (.bl true) ∧ I n g) ⟨rfl, q⟩ (fun i d acc g hd z => by
    obtain ⟨e1, q⟩ := z
    obtain ⟨e2, h1, h2⟩ := h i d g hd q
    refine ⟨e2, h1, wp_yesT ?_⟩
    rw [if_pos rfl]
    refine h2.mono fun y g2 ⟨y1, i2⟩ => ⟨?_, i2⟩
    rw [e1, y1, List.replicate_succ']) (fun r g ⟨e1, q⟩ => by rw [e1]; exact k g q)

/-! Cx: worst distances -/
theorem at0_short {L : List Lf} (h : 0 < L.length) {j : Nat} (hj : j < (short L).length) : at0 (short L) j = at0 L j := by
  have := short_le L
  rw [← fl_lt hj, fl_short h, fl_lt (by omega)]
theorem en_short {L : List Lf} {a : Int} (h : 0 < L.length) {j : Nat} (hj : j < (short L).length) : en (short L) a j = en L a j := by
  unfold en
  rw [at0_short h hj]
theorem least_short {L : List Lf} {a : Int} (h : 0 < L.length) : least (en (short L) a) (short L).length = least (en L a) L.length := by
  have hl := short_le L
  have hp := short_pos h
  cases e : least (en (short L) a) (short L).length with
  | some j =>
    obtain ⟨h1, h2, h3⟩ := least_some.mp e
    exact (least_some.mpr ⟨by omega, by rw [← en_short h h1]; exact h2, fun i hi => by rw [← en_short h (by omega)]; exact h3 i hi⟩).symm
  | none =>
    have h1 := least_none.mp e
    refine (least_none.mpr fun i hi => ?_).symm
    by_cases q : i < (short L).length
    · rw [← en_short h q]; exact h1 i q
    · have h2 := h1 ((short L).length - 1) (by omega)
      unfold en at h2 ⊢
      have e1 : at0 (short L) ((short L).length - 1) = at0 L i := by
        rw [← fl_lt (by omega), fl_over (i := (short L).length - 1) (j := i) (by omega) (by omega), fl_short h, fl_lt hi]
      rw [e1] at h2
      refine decide_eq_false fun z => of_decide_eq_false h2 (LeL.trans ?_ z)
      have := pow_le (a := (short L).length - 1) (b := i) (by omega)
      show a + 2 ^ ((short L).length - 1) ≤ a + 2 ^ i
      omega
theorem worst_short {L : List Lf} {a : Int} (h : 0 < L.length) : worstL (short L) a = worstL L a := by
  unfold worstL
  rw [least_short h]
theorem worst_bd {L : List Lf} {a n : Int} (h : L.length ≤ 61) (e : worstL L a = some n) : 0 ≤ n ∧ n ≤ 1152921504606846976 := by
  unfold worstL at e
  cases q : least (en L a) L.length with
  | none => rw [q] at e; cases e
  | some j =>
    rw [q] at e
    have e : some ((2 : Int) ^ j - 1) = some n := e
    cases e
    have := (least_some.mp q).1
    have w1 := pow_le (a := j) (b := 60) (by omega)
    have w2 := pow_pos' j
    have w4 : (2 : Int) ^ 60 = 1152921504606846976 := by decide
    omega
theorem Rp.worst {L : List Lf} {a : Int} {k : Nat} (h : L.length ≤ 61) : Rp (lfD (worstL L a)) k 130 := Rp.lf fun n e => by
  have := worst_bd h e
  omega
theorem worst_of_wp {g : List Cell} {L : List Lf} {a : Int} (h2 : L.length ≤ 100000) : WR (p_worst_of [lvD L, .int a] g) fun d g' => g' = g ∧ d = lfD (worstL L a) := by
  refine wp_fn rfl ?_
  walk_at "wp"
  refine wp_forL (fun i e g' => g' = g ∧ (∃ x y, e = [.v (lvD L), .v (.int a), x, y]) ∧ ∀ j, j < i → en L a j = false) ⟨rfl, ⟨_, _, rfl⟩, fun j hj => by omega⟩ ?_ ?_
  · rintro i d e g1 hd ⟨e1, ⟨x, y, rfl⟩, hb⟩
    subst e1
    obtain ⟨hi, rfl⟩ := enum_lv hd
    refine ⟨_, rfl, ?_⟩
    show WS (ifS _ _ _ [.v (lvD L), .v (.int a), .v (.int (i : Nat)), .v (lfD (at0 L i))] _) _ _ _ _
    walk_at "wp"
    · rename_i q
      unfold worstL
      rw [least_some.mpr ⟨hi, decide_eq_true q, hb⟩]
      rfl
    · rename_i q
      refine ⟨⟨_, _, rfl⟩, fun j hj => ?_⟩
      by_cases w : j = i
      · subst w; exact decide_eq_false q
      · exact hb j (by omega)
  · rintro e g1 ⟨e1, ⟨x, y, rfl⟩, hb⟩
    subst e1
    rw [enumL_length, List.length_map] at hb
    walk_at "wp"
    unfold worstL
    rw [least_none.mpr hb]
    rfl
local macro_rules | `(tactic| walk_at "call") => `(tactic| (with_reducible show WR (p_worst_of _ _) _; with_reducible refine WR.eqv (worst_of_wp (by walk_at "om")) ?_))
theorem rule_call_wp {g : List Cell} {c : Nat} {L : List Lf} {a : Int} (hc : c < 2) (h2 : L.length ≤ 100000) : WR (p_Rule_call [ruD c L, .int a] g) fun d g' => g' = g ∧ d = lfD (worstL L a) := by
  refine wp_fn rfl ?_
  walk_at "wp"
local macro_rules | `(tactic| walk_at "call") => `(tactic| (with_reducible show WR (p_Rule_call _ _) _; with_reducible refine WR.eqv (rule_call_wp (by first | assumption | decide) (by walk_at "om")) ?_))
theorem p_worst_wp {g : List Cell} {c : Nat} {L : List Lf} {a : Int} (hc : c < 2) (h2 : L.length ≤ 100000) : WR (p_worst [ruD c L, .int a] g) fun d g' => g' = g ∧ d = lfD (worstL L a) := by
  refine wp_fn rfl ?_
  walk_at "wp"
local macro_rules | `(tactic| walk_at "call") => `(tactic| (with_reducible show WR (p_worst _ _) _; with_reducible refine WR.eqv (p_worst_wp (by first | assumption | decide) (by walk_at "om")) ?_))
theorem rule_call_short {g : List Cell} {c : Nat} {L : List Lf} {a : Int} (hc : c < 2) (h1 : 0 < L.length) (h2 : L.length ≤ 100000) : WR (p_Rule_call [ruD c (short L), .int a] g) fun d g' => g' = g ∧ d = lfD (worstL L a) := by
  have := short_le L
  have := rule_call_wp (g := g) (c := c) (L := short L) (a := a) hc (by omega)
  rwa [worst_short h1] at this
theorem p_worst_short {g : List Cell} {c : Nat} {L : List Lf} {a : Int} (hc : c < 2) (h1 : 0 < L.length) (h2 : L.length ≤ 100000) : WR (p_worst [ruD c (short L), .int a] g) fun d g' => g' = g ∧ d = lfD (worstL L a) := by
  have := short_le L
  have := p_worst_wp (g := g) (c := c) (L := short L) (a := a) hc (by omega)
  rwa [worst_short h1] at this
local macro_rules | `(tactic| walk_at "call") => `(tactic| (with_reducible show WR (p_Rule_call _ _) _; with_reducible refine WR.eqv (rule_call_short (by first | assumption | decide) (by walk_at "om") (by walk_at "om")) ?_))
local macro_rules | `(tactic| walk_at "call") => `(tactic| (with_reducible show WR (p_worst _ _) _; with_reducible refine WR.eqv (p_worst_short (by first | assumption | decide) (by walk_at "om") (by walk_at "om")) ?_))
local macro_rules | `(tactic| walk_at "rp") => `(tactic| repeat (first | with_reducible exact Rp.non | with_reducible exact Rp.bl | with_reducible exact Rps.nil | with_reducible exact Rp.worst (by walk_at "om") | with_reducible exact Rp.lv (by first | assumption | (with_reducible apply Given.lv; assumption)) | with_reducible apply Rps.cons | with_reducible apply Rp.tup | with_reducible apply Rp.lst | with_reducible exact Rp.int (by walk_at "om") | assumption))
theorem IntsIn.snoc {lo hi k : Int} {ds : List D} (h : IntsIn lo hi ds) (h1 : lo ≤ k ∧ k ≤ hi) : IntsIn lo hi (ds ++ [.int k]) := fun d hd => by
  rcases List.mem_append.mp hd with hd | hd
  · exact h d hd
  · rw [List.mem_singleton] at hd
    exact ⟨k, hd, h1⟩

/-! Cz: restore points -/
def p_worst_tick : List D → List Cell → R D := fnM 2 5 (seqS (ownS (lcM (enumIt (consM (unM (fldD 2) (varM 0)) (nilM))) (tgT 2 (tgs1 (tgN 3) (tgs1 (tgN 4) (tgs0)))) (boolM (callM 2 p_is_at_least (consM (varM 4) (consM (opM addD (seeM 1) (callM 1 p_size_of (consM (varM 3) (nilM)))) (nilM))))) (varM 3) [3, 4]) 2)
    (seqS (asgS (ifV (boolM (opM neA (seeM 2) (valM (fitM (nilM))))) (opM ixD (seeM 2) (conM (.int 0))) (opM subD (ruLen p_Rule_len (consM (varM 0) (nilM))) (conM (.int 1)))) (tgN 3))
    (retS (opM subD (opM addD (seeM 1) (callM 1 p_size_of (consM (varM 3) (nilM)))) (conM (.int 1))))))
def p_youngest : List D → List Cell → R D := fnM 2 3 (seqS (asgS (callM 1 p_size_of (consM (varM 1) (nilM))) (tgN 2))
    (retS (ifV (boolM (opM geD (seeM 0) (seeM 2))) (opM subD (seeM 0) (opM modD (opM subD (seeM 0) (seeM 2)) (opM mulD (conM (.int 2)) (seeM 2)))) (conM .non))))
def p_youngest_by : List D → List Cell → R D := fnM 3 3 (seqS (ifS (boolM (opM eqA (seeM 2) (opM subD (ruLen p_Rule_len (consM (varM 0) (nilM))) (conM (.int 1)))))
    (retS (opM subD (seeM 1) (opM modD (seeM 1) (callM 1 p_size_of (consM (varM 2) (nilM))))))
    (skipS))
    (retS (callM 2 p_youngest (consM (varM 1) (consM (varM 2) (nilM))))))
def p_oldest_kept : List D → List Cell → R D := fnM 3 4 (seqS (asgS (opM ixD (unM (fldD 2) (varM 0)) (seeM 2)) (tgN 3))
    (retS (ifV (boolM (opM isND (seeM 3) (conM .non))) (conM (.int 0)) (bltM maxF (consM (conM (.int 0)) (consM (opM addD (opM subD (seeM 1) (seeM 3)) (conM (.int 1))) (nilM)))))))
def p_restore_point : List D → List Cell → R D := fnM 3 7 (seqS (ownS (lcM (rngIt (consM (ruLen p_Rule_len (consM (varM 0) (nilM))) (nilM))) (tgN 5) (yesB) (callM 3 p_youngest_by (consM (varM 0) (consM (opM subD (seeM 1) (seeM 2)) (consM (varM 5) (nilM))))) [5]) 3)
    (seqS (frzS 3 (ownS (lcM (enumIt (consM (varM 3) (nilM))) (tgT 2 (tgs1 (tgN 5) (tgs1 (tgN 6) (tgs0)))) (andB (boolM (opM notND (seeM 6) (conM .non))) (boolM (opM geD (seeM 6) (callM 3 p_oldest_kept (consM (varM 0) (consM (varM 1) (consM (varM 5) (nilM)))))))) (varM 6) [5, 6]) 4))
    (retS (bltM maxDF (consM (seeM 4) (nilM))))))
def p_distance : List D → List Cell → R D := fnM 3 4 (seqS (asgS (callM 3 p_restore_point (consM (varM 0) (consM (varM 1) (consM (varM 2) (nilM))))) (tgN 3))
    (retS (ifV (boolM (opM isND (seeM 3) (conM .non))) (conM .non) (opM subD (opM subD (seeM 1) (seeM 3)) (seeM 2)))))
def p_shows_worst : List D → List Cell → R D := fnM 3 3 (retS (andV (callM 1 (fun ds g => p_is_integer (ds ++ [.non]) g) (consM (varM 2) (nilM))) (andV (opM geD (seeM 2) (seeM 1)) (opM eqA (callM 3 p_distance (consM (varM 0) (consM (varM 2) (consM (varM 1) (nilM))))) (callM 2 p_worst (consM (varM 0) (consM (varM 1) (nilM))))))))
theorem youngest_wp {g : List Cell} {t : Int} {i : Nat} (hi : i ≤ 63) : WR (p_youngest [.int t, .int (i : Nat)] g) fun d g' => g' = g ∧ d = lfD (youngI t i) := by
  have h1 := pow_pos' i
  have h2 := pow_le (a := i) (b := 63) hi
  have h3 : (2 : Int) ^ 63 = 9223372036854775808 := by decide
  refine wp_fn rfl ?_
  walk_at "wp"
  · rename_i q
    unfold youngI
    rw [if_pos q]
    rfl
  · rename_i q
    unfold youngI
    rw [if_neg q]
    rfl
local macro_rules | `(tactic| walk_at "call") => `(tactic| (with_reducible show WR (p_youngest _ _) _; with_reducible refine WR.eqv (youngest_wp (by walk_at "om")) ?_))
theorem ix_int {L : List Lf} {i x : Int} {g : List Cell} (h0 : 0 ≤ i) (h1 : i < L.length) (h : at0 L i.toNat = some x) : ixD (lvD L) (.int i) g = some (.int x) := by rw [ix_lv h0 h1, h]; rfl
theorem ix_non {L : List Lf} {i : Int} {g : List Cell} (h0 : 0 ≤ i) (h1 : i < L.length) (h : at0 L i.toNat = none) : ixD (lvD L) (.int i) g = some .non := by rw [ix_lv h0 h1, h]; rfl
local macro_rules | `(tactic| walk_at "ex") => `(tactic| with_reducible refine Exists.intro _ (And.intro (ix_int (by walk_at "om") (by walk_at "om") (by assumption)) ?_))
local macro_rules | `(tactic| walk_at "ex") => `(tactic| with_reducible refine Exists.intro _ (And.intro (ix_non (by walk_at "om") (by walk_at "om") (by assumption)) ?_))
theorem ix_last_int {L : List Lf} {x : Int} {g : List Cell} (h1 : 0 < L.length) (h : at0 L (L.length - 1) = some x) : ixD (lvD L) (.int (-1)) g = some (.int x) := by rw [ix_lv_last h1, h]; rfl
theorem ix_last_non {L : List Lf} {g : List Cell} (h1 : 0 < L.length) (h : at0 L (L.length - 1) = none) : ixD (lvD L) (.int (-1)) g = some .non := by rw [ix_lv_last h1, h]; rfl
local macro_rules | `(tactic| walk_at "ex") => `(tactic| with_reducible refine Exists.intro _ (And.intro (ix_last_int (by walk_at "om") (by assumption)) ?_))
local macro_rules | `(tactic| walk_at "ex") => `(tactic| with_reducible refine Exists.intro _ (And.intro (ix_last_non (by walk_at "om") (by assumption)) ?_))
theorem oldest_wp {g : List Cell} {c : Nat} {L : List Lf} {t : Int} {i : Nat} (hc : c < 2) (hi : i < L.length) : WR (p_oldest_kept [ruD c L, .int t, .int (i : Nat)] g) fun d g' => g' = g ∧ d = .int (oldI L t i) := by
  refine wp_fn rfl ?_
  unfold oldI
  cases e : at0 L i with
  | none =>
    have e : at0 L ((i : Nat) : Int).toNat = none := e
    walk_at "wp"
  | some x =>
    have e : at0 L ((i : Nat) : Int).toNat = some x := e
    walk_at "wp"
local macro_rules | `(tactic| walk_at "call") => `(tactic| (with_reducible show WR (p_oldest_kept _ _) _; with_reducible refine WR.eqv (oldest_wp (by first | assumption | decide) (by walk_at "om")) ?_))
theorem youngest_by_wp {g : List Cell} {c : Nat} {L : List Lf} {t : Int} {i : Nat} (hc : c < 2) (hi : i < L.length) (hl : L.length ≤ 61) : WR (p_youngest_by [ruD c L, .int t, .int (i : Nat)] g) fun d g' => g' = g ∧ d = lfD (ybI L.length t i) := by
  have h1 := pow_pos' i
  have h2 := pow_le (a := i) (b := 61) (by omega)
  have h3 : (2 : Int) ^ 61 = 2305843009213693952 := by decide
  refine wp_fn rfl ?_
  unfold ybI
  walk_at "wp"
  · rename_i q
    rw [if_pos (by omega)]
    rfl
  · rename_i q
    rw [if_neg (by omega)]
local macro_rules | `(tactic| walk_at "call") => `(tactic| (with_reducible show WR (p_youngest_by _ _) _; with_reducible refine WR.eqv (youngest_by_wp (by first | assumption | decide) (by walk_at "om") (by walk_at "om")) ?_))
theorem maxDF_ints (ns : List Int) (g : List Cell) : maxDF [.lst (ns.map D.int)] g = some (lfD (maxO ns)) := by
  unfold maxDF
  simp only [intsOf_map]
  cases ns <;> rfl
/-! lists of whole numbers: == [] -/
theorem okds_get {ds : List D} {k : Nat} (h : ∀ d ∈ ds, okd d k = true) : okds ds k = true := by
  induction ds with
  | nil => rfl
  | cons d ds ih =>
    simp only [okds, Bool.and_eq_true]
    exact ⟨h d (List.mem_cons_self ..), ih fun x hx => h x (List.mem_cons_of_mem _ hx)⟩
theorem eqA_nil {ds : List D} {g : List Cell} (h : ∀ d ∈ ds, okd d 63 = true) : eqA (.lst ds) (.lst []) g = some (.bl (decide (ds = []))) := by
  have h1 : okd (.lst ds) 64 = true := by
    simp only [okd, okds_get h]
    rfl
  have hP : eqP (.lst ds) (.lst []) g = some (.bl (decide (ds = []))) := by
    unfold eqP
    rw [if_pos ⟨h1, rfl⟩]
    unfold eqd
    cases ds with
    | nil => rfl
    | cons d ds => rfl
  unfold eqA orF
  exact hP
theorem eq2_nil {ds : List D} {PB : Bool → List Cell → Prop} {g : List Cell} (h : ∀ d ∈ ds, okd d 63 = true) (k : Br (ds = []) PB g) : Eq2 (.lst ds) (.lst []) PB g := .inr ⟨_, eqA_nil h, k.dec⟩
theorem eq2_ints_nil {α : Type} {f : α → Int} {xs : List α} {PB : Bool → List Cell → Prop} {g : List Cell} (k : Br (xs = []) PB g) : Eq2 (.lst (xs.map fun i => .int (f i))) (.lst []) PB g :=
  eq2_nil (fun d hd => by obtain ⟨x, _, rfl⟩ := List.mem_map.mp hd; rfl) ⟨fun z => k.1 (List.map_eq_nil_iff.mp z), fun z => k.2 fun w => z (by rw [w]; rfl)⟩
local macro_rules | `(tactic| walk_at "ex") => `(tactic| with_reducible refine eq2_ints_nil ?_)
theorem enumL_map {F : Nat → D} (n : Nat) : enumL ((List.range n).map F) = (List.range n).map fun i => .tup [.int (i : Nat), F i] := by
  refine List.ext_getElem? fun i => ?_
  unfold enumL
  rw [List.length_map, List.length_range, List.getElem?_zipWith, List.getElem?_map, List.getElem?_map]
  cases (List.range n)[i]? <;> rfl
theorem filterMap_int {L : List Lf} {t a : Int} (is : List Nat) (n : Nat) : ((is.filter fun i => match ybI n (t - a) i with | some p => decide (oldI L t i ≤ p) | none => false).map fun i => lfD (ybI n (t - a) i)) = (is.filterMap fun i => match ybI n (t - a) i with | some p => if oldI L t i ≤ p then some p else none | none => none).map D.int := by
  induction is with
  | nil => rfl
  | cons i is ih =>
    rw [List.filter_cons, List.filterMap_cons]
    cases e : ybI n (t - a) i with
    | none => simp only [Bool.false_eq_true, ↓reduceIte]; exact ih
    | some p =>
      by_cases q : oldI L t i ≤ p
      · simp only [q, decide_true, ↓reduceIte, List.map_cons]
        rw [ih, e]; rfl
      · simp only [q, decide_false, ↓reduceIte, Bool.false_eq_true]; exact ih
theorem restore_wp {g : List Cell} {c : Nat} {L : List Lf} {t a : Int} (hc : c < 2) (h1 : 0 < L.length) (h2 : L.length ≤ 61) : WR (p_restore_point [ruD c L, .int t, .int a] g) fun d g' => g' = g ∧ d = lfD (resI L t a) := by
  refine wp_fn rfl ?_
  walk_at "wp"
  refine lcMap (α := Nat) (f := fun i => .int (0 + (i : Int))) (fun i => lfD (ybI L.length (t - a) i)) ?_ ?_
  · intro i x hx
    have hx := List.mem_range.mp (List.mem_of_getElem? hx)
    refine ⟨_, rfl, ?_⟩
    show WR (callM 3 _ _ [_, _, _, _, _, .v (.int (0 + (x : Int))), _] _) _
    rw [Int.zero_add]
    walk_at "wp"
  · walk_at "wp"
    rw [Int.toNat_natCast, enumL_map]
    refine ⟨by rw [List.length_map, List.length_range]; omega, ?_⟩
    refine lcFil (fun i => match ybI L.length (t - a) i with | some p => decide (oldI L t i ≤ p) | none => false) (fun i => lfD (ybI L.length (t - a) i)) ?_ ?_
    · intro i x hx
      have hx := List.mem_range.mp (List.mem_of_getElem? hx)
      refine ⟨_, rfl, ?_⟩
      show WR (andB _ _ [.v (ruD c L), .v (.int t), .v (.int a), _, .no, .v (.int (x : Nat)), .v (lfD (ybI L.length (t - a) x))] _) _
      cases e : ybI L.length (t - a) x with
      | none =>
        simp only [lfD]
        walk_at "wp"
        exact fun z => nomatch z
      | some p =>
        simp only [lfD]
        walk_at "wp"
        · rename_i q
          rw [decide_eq_true q]
          refine ⟨rfl, fun _ => ?_⟩
          walk_at "wp"
        · rename_i q
          rw [decide_eq_false q]
          exact ⟨rfl, fun z => nomatch z⟩
    · rw [filterMap_int]
      walk_at "wp"
      exact ⟨_, maxDF_ints _ _, rfl, rfl⟩
local macro_rules | `(tactic| walk_at "call") => `(tactic| (with_reducible show WR (p_restore_point _ _) _; with_reducible refine WR.eqv (restore_wp (by first | assumption | decide) (by walk_at "om") (by walk_at "om")) ?_))
theorem distance_wp {g : List Cell} {c : Nat} {L : List Lf} {t a : Int} (hc : c < 2) (h1 : 0 < L.length) (h2 : L.length ≤ 61) : WR (p_distance [ruD c L, .int t, .int a] g) fun d g' => g' = g ∧ d = lfD (gapI L t a) := by
  refine wp_fn rfl ?_
  unfold gapI
  refine wp_seq (wp_asgN rfl ?_)
  walk_at "wp"
  · rename_i q
    rw [q]; rfl
  · rename_i q
    cases e : resI L t a with
    | none => exact absurd e q
    | some p =>
      simp only [lfD]
      refine ⟨_, _, rfl, rfl, ?_⟩
      walk_at "wp"
      rfl
local macro_rules | `(tactic| walk_at "call") => `(tactic| (with_reducible show WR (p_distance _ _) _; with_reducible refine WR.eqv (distance_wp (by first | assumption | decide) (by walk_at "om") (by walk_at "om")) ?_))
/-- the index that decides -/
def wIx (L : List Lf) (a : Int) : Nat := (least (en L a) L.length).getD (L.length - 1)
theorem filter_head (P : Nat → Bool) (n : Nat) : ((List.range n).filter P).head? = least P n := by
  induction n with
  | zero => rfl
  | succ n ih =>
    rw [List.range_succ, List.filter_append, List.head?_append, ih, least]
    cases least P n with
    | some j => rfl
    | none =>
      rw [List.filter_cons, List.filter_nil]
      cases P n <;> rfl
theorem worst_tick_wp {g : List Cell} {c : Nat} {L : List Lf} {a : Int} (hc : c < 2) (h1 : 0 < L.length) (h2 : L.length ≤ 61) : WR (p_worst_tick [ruD c L, .int a] g) fun d g' => g' = g ∧ d = .int (a + 2 ^ wIx L a - 1) := by
  refine wp_fn rfl ?_
  walk_at "wp"
  have e : enumL (L.map lfD) = (List.range L.length).map fun i => .tup [.int (i : Nat), lfD (at0 L i)] := by
    refine List.ext_getElem? fun i => ?_
    cases q : (enumL (L.map lfD))[i]? with
    | none =>
      rw [List.getElem?_eq_none_iff] at q
      rw [enumL_length, List.length_map] at q
      rw [List.getElem?_eq_none (by rw [List.length_map, List.length_range]; exact q)]
    | some d =>
      obtain ⟨hi, rfl⟩ := enum_lv q
      rw [List.getElem?_map, List.getElem?_range hi]
      rfl
  rw [e]
  refine ⟨by rw [List.length_map, List.length_range]; omega, ?_⟩
  refine lcFil (fun i => en L a i) (fun i => .int (i : Nat)) ?_ ?_
  · intro i x hx
    have hx := List.mem_range.mp (List.mem_of_getElem? hx)
    refine ⟨_, rfl, ?_⟩
    show WR (boolM _ [.v (ruD c L), .v (.int a), _, .v (.int (x : Nat)), .v (lfD (at0 L x))] _) _
    walk_at "wp"
    refine fun _ => ?_
    walk_at "wp"
  · have hw : wIx L a < L.length := by
      unfold wIx
      cases q : least (en L a) L.length with
      | none => exact (by show L.length - 1 < _; omega)
      | some j => exact (least_some.mp q).1
    have hf := filter_head (en L a) L.length
    unfold wIx at hw ⊢
    cases q : (List.range L.length).filter (en L a) with
    | nil =>
      rw [q] at hf
      rw [← hf] at hw ⊢
      walk_at "wp"
      rw [show ((L.length : Int) - 1).toNat = L.length - 1 by omega]
      rfl
    | cons j js =>
      rw [q] at hf
      rw [← hf] at hw ⊢
      have hw : j < L.length := hw
      walk_at "wp"
      refine ⟨.int (j : Nat), atI_nat (Int.le_refl 0) rfl, ?_⟩
      walk_at "wp"
      rfl
theorem wIx_lt {L : List Lf} {a : Int} (h1 : 0 < L.length) : wIx L a < L.length := by
  unfold wIx
  cases q : least (en L a) L.length with
  | none => exact (by show L.length - 1 < _; omega)
  | some j => exact (least_some.mp q).1
local macro_rules | `(tactic| walk_at "call") => `(tactic| (with_reducible show WR (p_worst_tick _ _) _; with_reducible refine WR.eqv (worst_tick_wp (by first | assumption | decide) (by walk_at "om") (by walk_at "om")) ?_))
theorem shows_worst_wp {g : List Cell} {c : Nat} {L : List Lf} {a v : Int} (hc : c < 2) (h1 : 0 < L.length) (h2 : L.length ≤ 61) : WR (p_shows_worst [ruD c L, .int a, .int v] g) fun d g' => g' = g ∧ d = .bl (decide (0 ≤ v ∧ a ≤ v ∧ gapI L v a = worstL L a)) := by
  refine wp_fn rfl ?_
  walk_at "wp"
  all_goals apply congrArg
  · rename_i q1 q2 q3
    exact (decide_eq_true ⟨q1, q2, q3⟩).symm
  · rename_i q1 q2 q3
    exact (decide_eq_false fun z => q3 z.2.2).symm
  · rename_i q1 q2
    exact (decide_eq_false fun z => q2 z.2.1).symm
  · rename_i q1
    exact (decide_eq_false fun z => q1 z.1).symm
local macro_rules | `(tactic| walk_at "call") => `(tactic| (with_reducible show WR (p_shows_worst _ _) _; with_reducible refine WR.eqv (shows_worst_wp (by first | assumption | decide) (by walk_at "om") (by walk_at "om")) ?_))
/-! guarantee (a), of the shortest tuple and of any -/
theorem gapI_nn {L : List Lf} {t a d : Int} (h1 : 0 < L.length) (h0 : a ≤ t) (ha : 0 ≤ a) (h : gapI L t a = some d) : 0 ≤ d := by
  have hr := resI_is h1 h0 ha
  unfold gapI at h
  cases e : resI L t a with
  | none => rw [e] at h; cases h
  | some p =>
    rw [e] at h hr
    have h : t - p - a = d := Option.some.inj h
    have := hr.2.1
    omega
theorem wt_none {L : List Lf} {a : Int} (hL : Lives L) (ha : 0 ≤ a) (e : worstL L a = none) : gapI L (a + 2 ^ wIx (short L) a - 1) a = none := by
  have hp := pw_pos (wIx (short L) a)
  unfold worstL at e
  rw [← least_short hL.ne] at e
  have e : least (en (short L) a) (short L).length = none := by
    cases q : least (en (short L) a) (short L).length with
    | none => rfl
    | some j => rw [q] at e; cases e
  have hx : wIx (short L) a = (short L).length - 1 := by unfold wIx; rw [e]; rfl
  rw [← gapI_short hL.ne (by omega) ha, hx]
  exact gap_none hL.short (fun i hi => least_none.mp e i hi) ha
theorem wt_some {L : List Lf} {a w : Int} (hL : Lives L) (ha : 0 ≤ a) (e : worstL L a = some w) : 0 ≤ w ∧ 2 ^ wIx (short L) a = w + 1 ∧ gapI L (a + w) a = some w ∧ (∀ t, a ≤ t → ∃ d, gapI L t a = some d ∧ 0 ≤ d ∧ d ≤ w) ∧ (∀ t, a ≤ t → t < a + w → ∃ d, gapI L t a = some d ∧ d < w) := by
  have e0 := e
  unfold worstL at e0
  rw [← least_short hL.ne] at e0
  cases q : least (en (short L) a) (short L).length with
  | none => rw [q] at e0; cases e0
  | some j =>
    rw [q] at e0
    have e0 : (2 : Int) ^ j - 1 = w := Option.some.inj e0
    have hp := pw_pos j
    have hx : wIx (short L) a = j := by unfold wIx; rw [q]; rfl
    obtain ⟨q1, q2, q3⟩ := least_some.mp q
    refine ⟨by omega, by rw [hx]; omega, ?_, fun t ht => ?_, fun t ht hl => ?_⟩
    · have := gap_at hL.short q1 q2 q3 ha
      rw [show a + 2 ^ j - 1 = a + w by omega, gapI_short hL.ne (by omega) ha, e0] at this
      exact this
    · obtain ⟨d, d1, d2, d3, d4⟩ := gap_le hL.short q1 q2 ht ha
      rw [gapI_short hL.ne ht ha] at d1
      exact ⟨d, d1, d2, by omega⟩
    · obtain ⟨d, d1, d2⟩ := gap_ahead hL.short q1 q2 ht ha (by omega)
      rw [gapI_short hL.ne ht ha] at d1
      exact ⟨d, d1, by omega⟩
theorem shows_short {g : List Cell} {c : Nat} {L : List Lf} {a v : Int} (hc : c < 2) (h1 : 0 < L.length) (h2 : L.length ≤ 61) (ha : 0 ≤ a) (hv : a ≤ v) : WR (p_shows_worst [ruD c (short L), .int a, .int v] g) fun d g' => g' = g ∧ d = .bl (decide (gapI L v a = worstL L a)) := by
  have k1 := short_pos h1
  have k2 := short_le L
  have := shows_worst_wp (g := g) (c := c) (L := short L) (a := a) (v := v) hc k1 (by omega)
  rw [gapI_short h1 hv ha, worst_short h1] at this
  rwa [show decide (0 ≤ v ∧ a ≤ v ∧ gapI L v a = worstL L a) = decide (gapI L v a = worstL L a) from decide_eq_decide.mpr ⟨fun z => z.2.2, fun z => ⟨by omega, hv, z⟩⟩] at this
local macro_rules | `(tactic| walk_at "call") => `(tactic| (with_reducible show WR (p_shows_worst _ _) _; with_reducible refine WR.eqv (shows_short (by first | assumption | decide) (by walk_at "om") (by walk_at "om") (by walk_at "om") (by walk_at "om")) ?_))
theorem shows_st {g : List Cell} {c : Nat} {L : List Lf} {a v : Int} (hc : c < 2) (h1 : 0 < L.length) (h2 : L.length ≤ 61) (ha : 0 ≤ a) (hv : a ≤ v) (h : gapI L v a = worstL L a) : WR (p_shows_worst [ruD c (short L), .int a, .int v] g) fun d g' => g' = g ∧ d = .bl true := by
  have := shows_short (g := g) hc h1 h2 ha hv
  rwa [decide_eq_true h] at this
theorem shows_sf {g : List Cell} {c : Nat} {L : List Lf} {a v : Int} (hc : c < 2) (h1 : 0 < L.length) (h2 : L.length ≤ 61) (ha : 0 ≤ a) (hv : a ≤ v) (h : gapI L v a ≠ worstL L a) : WR (p_shows_worst [ruD c (short L), .int a, .int v] g) fun d g' => g' = g ∧ d = .bl false := by
  have := shows_short (g := g) hc h1 h2 ha hv
  rwa [decide_eq_false h] at this
local macro_rules | `(tactic| walk_at "call") => `(tactic| (with_reducible show WR (p_shows_worst _ _) _; with_reducible refine WR.eqv (shows_st (by first | assumption | decide) (by walk_at "om") (by walk_at "om") (by walk_at "om") (by walk_at "om") (by assumption)) ?_))
local macro_rules | `(tactic| walk_at "call") => `(tactic| (with_reducible show WR (p_shows_worst _ _) _; with_reducible refine WR.eqv (shows_sf (by first | assumption | decide) (by walk_at "om") (by walk_at "om") (by walk_at "om") (by walk_at "om") (by assumption)) ?_))
theorem shows_early {g : List Cell} {c : Nat} {L : List Lf} {a v : Int} (hc : c < 2) (h1 : 0 < L.length) (h2 : L.length ≤ 61) (hv : v < a) : WR (p_shows_worst [ruD c (short L), .int a, .int v] g) fun d g' => g' = g ∧ d = .bl false := by
  have k1 := short_pos h1
  have k2 := short_le L
  have := shows_worst_wp (g := g) (c := c) (L := short L) (a := a) (v := v) hc k1 (by omega)
  rwa [decide_eq_false fun z => by have := z.2.1; omega] at this
local macro_rules | `(tactic| walk_at "call") => `(tactic| (with_reducible show WR (p_shows_worst _ _) _; with_reducible refine WR.eqv (shows_early (by first | assumption | decide) (by walk_at "om") (by walk_at "om") (by walk_at "om")) ?_))
theorem pw_some {g : List Cell} {c : Nat} {L : List Lf} {a w : Int} (hc : c < 2) (h1 : 0 < L.length) (h2 : L.length ≤ 100000) (h : worstL L a = some w) : WR (p_worst [ruD c (short L), .int a] g) fun d g' => g' = g ∧ d = .int w := by
  have := p_worst_short (g := g) (c := c) (a := a) hc h1 h2
  rwa [h] at this
theorem pw_none {g : List Cell} {c : Nat} {L : List Lf} {a : Int} (hc : c < 2) (h1 : 0 < L.length) (h2 : L.length ≤ 100000) (h : worstL L a = none) : WR (p_worst [ruD c (short L), .int a] g) fun d g' => g' = g ∧ d = .non := by
  have := p_worst_short (g := g) (c := c) (a := a) hc h1 h2
  rwa [h] at this
local macro_rules | `(tactic| walk_at "call") => `(tactic| (with_reducible show WR (p_worst _ _) _; with_reducible refine WR.eqv (pw_some (by first | assumption | decide) (by walk_at "om") (by walk_at "om") (by assumption)) ?_))
local macro_rules | `(tactic| walk_at "call") => `(tactic| (with_reducible show WR (p_worst _ _) _; with_reducible refine WR.eqv (pw_none (by first | assumption | decide) (by walk_at "om") (by walk_at "om") (by assumption)) ?_))
theorem worst_tick_short {g : List Cell} {c : Nat} {L : List Lf} {a : Int} (hc : c < 2) (h1 : 0 < L.length) (h2 : L.length ≤ 61) : WR (p_worst_tick [ruD c (short L), .int a] g) fun d g' => g' = g ∧ d = .int (a + 2 ^ wIx (short L) a - 1) := by
  have k1 := short_pos h1
  have k2 := short_le L
  exact worst_tick_wp hc k1 (by omega)
local macro_rules | `(tactic| walk_at "call") => `(tactic| (with_reducible show WR (p_worst_tick _ _) _; with_reducible refine WR.eqv (worst_tick_short (by first | assumption | decide) (by walk_at "om") (by walk_at "om")) ?_))
theorem in_non {l : List Lf} {g : List Cell} : inD false .non (.lst (l.map lfD)) g = some (.bl (decide (none ∈ l))) := by
  have hf : (l.map lfD).all flatD = true := by
    rw [List.all_eq_true]
    intro d hd
    obtain ⟨x, _, rfl⟩ := List.mem_map.mp hd
    cases x <;> rfl
  unfold inD
  simp only
  rw [if_pos ⟨rfl, hf⟩]
  show some (D.bl (inV .non ((l.map lfD).map toV))) = _
  congr 2
  induction l with
  | nil => rfl
  | cons x l ih =>
    have hf2 : (l.map lfD).all flatD = true := by
      rw [List.map_cons, List.all_cons, Bool.and_eq_true] at hf
      exact hf.2
    have ih := ih hf2
    unfold inV at ih ⊢
    rw [List.map_cons, List.map_cons, List.any_cons, ih]
    cases x with
    | none => simp [lfD, toV, eqV]
    | some n => simp [lfD, toV, eqV]
theorem idx_ints {ns : List Int} {w : Int} {j : Nat} (h : ns[j]? = some w) (k : ∀ m, m < j → ns[m]? ≠ some w) : (((ns.map D.int).map toV).findIdx? fun z => eqV z (toV (.int w))) = some j := by
  rw [List.findIdx?_eq_some_iff_getElem]
  have hj := (List.getElem?_eq_some_iff.mp h)
  refine ⟨by rw [List.length_map, List.length_map]; exact hj.1, ?_, fun m hm => ?_⟩
  · rw [List.getElem_map, List.getElem_map, hj.2]
    show (w == w) = true
    exact beq_self_eq_true w
  · rw [List.getElem_map, List.getElem_map]
    show ¬ (ns[m]'_ == w) = true
    intro z
    refine k m hm ?_
    rw [List.getElem?_eq_getElem (show m < ns.length by have := hj.1; omega)]
    exact congrArg some (eq_of_beq z)
theorem gap_bd {L : List Lf} {t a d : Int} (h1 : 0 < L.length) (h0 : a ≤ t) (ha : 0 ≤ a) (e : gapI L t a = some d) : 0 ≤ d ∧ d ≤ t := by
  have hr := resI_is h1 h0 ha
  unfold gapI at e
  cases q : resI L t a with
  | none => rw [q] at e; cases e
  | some p =>
    rw [q] at e hr
    have e : t - p - a = d := Option.some.inj e
    have := hr.2.1
    have := hr.1.1
    omega

/-! Cn: counts of kept points -/
def p_multiples : List D → List Cell → R D := fnM 3 3 (retS (bltM maxF (consM (conM (.int 0)) (consM (opM subD (opM fdivD (seeM 1) (seeM 2)) (opM fdivD (opM subD (seeM 0) (conM (.int 1))) (seeM 2))) (nilM)))))
def p_ranked_up_to : List D → List Cell → R D := fnM 2 3 (seqS (asgS (callM 1 p_size_of (consM (varM 1) (nilM))) (tgN 2))
    (retS (ifV (boolM (opM gtD (seeM 0) (conM (.int 0)))) (opM fdivD (opM addD (seeM 0) (seeM 2)) (opM mulD (conM (.int 2)) (seeM 2))) (conM (.int 0)))))
def p_ranked : List D → List Cell → R D := fnM 3 3 (retS (bltM maxF (consM (conM (.int 0)) (consM (opM subD (callM 2 p_ranked_up_to (consM (varM 1) (consM (varM 2) (nilM)))) (callM 2 p_ranked_up_to (consM (opM subD (seeM 0) (conM (.int 1))) (consM (varM 2) (nilM))))) (nilM)))))
def p_kept_between : List D → List Cell → R D := fnM 4 8 (seqS (asgS (conM (.int 0)) (tgN 4))
    (seqS (forS (rngIt (consM (ruLen p_Rule_len (consM (varM 0) (nilM))) (nilM))) (tgN 5)
    (seqS (parS 6 7 (bltM maxF (consM (seeM 2) (consM (callM 3 p_oldest_kept (consM (varM 0) (consM (varM 1) (consM (varM 5) (nilM))))) (nilM)))) (bltM minF (consM (seeM 3) (consM (seeM 1) (nilM)))))
    (ifS (boolM (opM eqA (seeM 5) (opM subD (ruLen p_Rule_len (consM (varM 0) (nilM))) (conM (.int 1)))))
    (augS (onI0 fun i j => .int (i + j)) 4 (callM 3 p_multiples (consM (varM 6) (consM (varM 7) (consM (callM 1 p_size_of (consM (varM 5) (nilM))) (nilM))))))
    (augS (onI0 fun i j => .int (i + j)) 4 (callM 3 p_ranked (consM (varM 6) (consM (varM 7) (consM (varM 5) (nilM)))))))))
    (retS (varM 4))))
def p_kept_count : List D → List Cell → R D := fnM 2 2 (retS (callM 4 p_kept_between (consM (varM 0) (consM (varM 1) (consM (conM (.int 0)) (consM (varM 1) (nilM)))))))
theorem p_multiples_wp {g : List Cell} {lo hi s : Int} (h0 : 0 < s) (h1 : s < 18446744073709551616) : WR (p_multiples [.int lo, .int hi, .int s] g) fun d g' => g' = g ∧ d = .int (cnt (mulP s) lo hi) := by
  rw [cnt_mul h0]
  refine wp_fn rfl ?_
  walk_at "wp"
local macro_rules | `(tactic| walk_at "call") => `(tactic| (with_reducible show WR (p_multiples _ _) _; with_reducible refine WR.eqv (p_multiples_wp (by walk_at "om") (by walk_at "om")) ?_))
theorem up_to_wp {g : List Cell} {x : Int} {i : Nat} (hi : i ≤ 63) : WR (p_ranked_up_to [.int x, .int (i : Nat)] g) fun d g' => g' = g ∧ d = .int (upI x i) := by
  have w1 := pow_pos' i
  have w2 := pow_le (a := i) (b := 63) (by omega)
  have w3 : (2 : Int) ^ 63 = 9223372036854775808 := by decide
  refine wp_fn rfl ?_
  unfold upI
  walk_at "wp"
  · rename_i q
    rw [if_pos q]
  · rename_i q
    rw [if_neg q]
local macro_rules | `(tactic| walk_at "call") => `(tactic| (with_reducible show WR (p_ranked_up_to _ _) _; with_reducible refine WR.eqv (up_to_wp (by walk_at "om")) ?_))
theorem ranked_wp {g : List Cell} {lo hi : Int} {i : Nat} (hi' : i ≤ 63) (h0 : 0 ≤ lo) : WR (p_ranked [.int lo, .int hi, .int (i : Nat)] g) fun d g' => g' = g ∧ d = .int (cnt (rnkP i) lo hi) := by
  rw [cnt_rnk h0]
  refine wp_fn rfl ?_
  walk_at "wp"
local macro_rules | `(tactic| walk_at "call") => `(tactic| (with_reducible show WR (p_ranked _ _) _; with_reducible refine WR.eqv (ranked_wp (by walk_at "om") (by walk_at "om")) ?_))
theorem kept_between_wp {g : List Cell} {c : Nat} {L : List Lf} {t lo hi : Int} (hc : c < 2) (h1 : 0 < L.length) (h2 : L.length ≤ 61) (h0 : 0 ≤ lo) : WR (p_kept_between [ruD c L, .int t, .int lo, .int hi] g) fun d g' => g' = g ∧ d = .int (cntK L t lo hi) := by
  rw [cntK_sum h1 h0]
  refine wp_fn rfl ?_
  walk_at "wp"
  refine wp_forL (fun i e g' => g' = g ∧ ∃ a b d, e = [.v (ruD c L), .v (.int t), .v (.int lo), .v (.int hi), .v (.int (sumTo (fun i => cnt (clsP L.length i) (max lo (oldI L t i)) (min hi t)) i)), a, b, d]) ⟨rfl, _, _, _, rfl⟩ ?_ ?_
  · rintro i d e g1 hd ⟨e1, a, b, d2, rfl⟩
    subst e1
    obtain ⟨hi, rfl⟩ := rngL_get hd
    have hi : i < L.length := by omega
    have w1 := pow_pos' i
    have w2 := pow_le (a := i) (b := 61) (by omega)
    have w3 : (2 : Int) ^ 61 = 2305843009213693952 := by decide
    refine ⟨_, rfl, ?_⟩
    show WS (seqS _ _ [_, _, _, _, _, .v (.int (0 + (i : Int))), _, _] _) _ _ _ _
    rw [Int.zero_add, sumTo]
    walk_at "wp"
    · rename_i q
      rw [show clsP L.length i = mulP (2 ^ i) by funext p; unfold clsP; rw [if_pos (by omega)]]
      exact ⟨_, _, _, rfl⟩
    · rename_i q
      rw [show clsP L.length i = rnkP i by funext p; unfold clsP; rw [if_neg (by omega)]]
      exact ⟨_, _, _, rfl⟩
  · rintro e g1 ⟨e1, a, b, d2, rfl⟩
    subst e1
    rw [rngL_length, Int.toNat_natCast]
    walk_at "wp"
local macro_rules | `(tactic| walk_at "call") => `(tactic| (with_reducible show WR (p_kept_between _ _) _; with_reducible refine WR.eqv (kept_between_wp (by first | assumption | decide) (by walk_at "om") (by walk_at "om") (by walk_at "om")) ?_))
theorem kept_count_wp {g : List Cell} {c : Nat} {L : List Lf} {t : Int} (hc : c < 2) (h1 : 0 < L.length) (h2 : L.length ≤ 61) : WR (p_kept_count [ruD c L, .int t] g) fun d g' => g' = g ∧ d = .int (cntK L t 0 t) := by
  refine wp_fn rfl ?_
  walk_at "wp"
local macro_rules | `(tactic| walk_at "call") => `(tactic| (with_reducible show WR (p_kept_count _ _) _; with_reducible refine WR.eqv (kept_count_wp (by first | assumption | decide) (by walk_at "om") (by walk_at "om")) ?_))
theorem kept_between_short {g : List Cell} {c : Nat} {L : List Lf} {t lo hi : Int} (hc : c < 2) (h1 : 0 < L.length) (h2 : L.length ≤ 61) (h0 : 0 ≤ lo) : WR (p_kept_between [ruD c (short L), .int t, .int lo, .int hi] g) fun d g' => g' = g ∧ d = .int (cntK L t lo hi) := by
  have k1 := short_pos h1
  have k2 := short_le L
  rw [← cntK_short h1]
  exact kept_between_wp hc k1 (by omega) h0
theorem kept_count_short {g : List Cell} {c : Nat} {L : List Lf} {t : Int} (hc : c < 2) (h1 : 0 < L.length) (h2 : L.length ≤ 61) : WR (p_kept_count [ruD c (short L), .int t] g) fun d g' => g' = g ∧ d = .int (cntK L t 0 t) := by
  have k1 := short_pos h1
  have k2 := short_le L
  rw [← cntK_short h1]
  exact kept_count_wp hc k1 (by omega)
local macro_rules | `(tactic| walk_at "call") => `(tactic| (with_reducible show WR (p_kept_between _ _) _; with_reducible refine WR.eqv (kept_between_short (by first | assumption | decide) (by walk_at "om") (by walk_at "om") (by walk_at "om")) ?_))
local macro_rules | `(tactic| walk_at "call") => `(tactic| (with_reducible show WR (p_kept_count _ _) _; with_reducible refine WR.eqv (kept_count_short (by first | assumption | decide) (by walk_at "om") (by walk_at "om")) ?_))
theorem restore_short {g : List Cell} {c : Nat} {L : List Lf} {t a : Int} (hc : c < 2) (h1 : 0 < L.length) (h2 : L.length ≤ 61) (ha : 0 ≤ a) (h0 : a ≤ t) : WR (p_restore_point [ruD c (short L), .int t, .int a] g) fun d g' => g' = g ∧ d = lfD (resI L t a) := by
  have k1 := short_pos h1
  have k2 := short_le L
  rw [← resI_short h1 h0 ha]
  exact restore_wp hc k1 (by omega)
theorem distance_short {g : List Cell} {c : Nat} {L : List Lf} {t a : Int} (hc : c < 2) (h1 : 0 < L.length) (h2 : L.length ≤ 61) (ha : 0 ≤ a) (h0 : a ≤ t) : WR (p_distance [ruD c (short L), .int t, .int a] g) fun d g' => g' = g ∧ d = lfD (gapI L t a) := by
  have k1 := short_pos h1
  have k2 := short_le L
  rw [← gapI_short h1 h0 ha]
  exact distance_wp hc k1 (by omega)
local macro_rules | `(tactic| walk_at "call") => `(tactic| (with_reducible show WR (p_restore_point _ _) _; with_reducible refine WR.eqv (restore_short (by first | assumption | decide) (by walk_at "om") (by walk_at "om") (by walk_at "om") (by walk_at "om")) ?_))
local macro_rules | `(tactic| walk_at "call") => `(tactic| (with_reducible show WR (p_distance _ _) _; with_reducible refine WR.eqv (distance_short (by first | assumption | decide) (by walk_at "om") (by walk_at "om") (by walk_at "om") (by walk_at "om")) ?_))
theorem Rp.cntK {L : List Lf} {t lo hi : Int} {k : Nat} (h : hi - lo ≤ 1000000000000000000000000) : Rp (.int (LW.cntK L t lo hi)) k 130 := by
  have := cntK_bd (L := L) (t := t) (lo := lo) (hi := hi)
  exact Rp.int (by omega)
local macro_rules | `(tactic| walk_at "rp") => `(tactic| with_reducible exact Rp.cntK (by walk_at "om"))
theorem restore_int {g : List Cell} {c : Nat} {L : List Lf} {t a p : Int} (hc : c < 2) (h1 : 0 < L.length) (h2 : L.length ≤ 61) (ha : 0 ≤ a) (h0 : a ≤ t) (h : resI L t a = some p) : WR (p_restore_point [ruD c (short L), .int t, .int a] g) fun d g' => g' = g ∧ d = .int p := by
  have := restore_short (g := g) hc h1 h2 ha h0
  rwa [h] at this
theorem restore_non {g : List Cell} {c : Nat} {L : List Lf} {t a : Int} (hc : c < 2) (h1 : 0 < L.length) (h2 : L.length ≤ 61) (ha : 0 ≤ a) (h0 : a ≤ t) (h : resI L t a = none) : WR (p_restore_point [ruD c (short L), .int t, .int a] g) fun d g' => g' = g ∧ d = .non := by
  have := restore_short (g := g) hc h1 h2 ha h0
  rwa [h] at this
theorem distance_int {g : List Cell} {c : Nat} {L : List Lf} {t a p : Int} (hc : c < 2) (h1 : 0 < L.length) (h2 : L.length ≤ 61) (ha : 0 ≤ a) (h0 : a ≤ t) (h : gapI L t a = some p) : WR (p_distance [ruD c (short L), .int t, .int a] g) fun d g' => g' = g ∧ d = .int p := by
  have := distance_short (g := g) hc h1 h2 ha h0
  rwa [h] at this
theorem distance_non {g : List Cell} {c : Nat} {L : List Lf} {t a : Int} (hc : c < 2) (h1 : 0 < L.length) (h2 : L.length ≤ 61) (ha : 0 ≤ a) (h0 : a ≤ t) (h : gapI L t a = none) : WR (p_distance [ruD c (short L), .int t, .int a] g) fun d g' => g' = g ∧ d = .non := by
  have := distance_short (g := g) hc h1 h2 ha h0
  rwa [h] at this
local macro_rules | `(tactic| walk_at "call") => `(tactic| (with_reducible show WR (p_restore_point _ _) _; with_reducible refine WR.eqv (restore_int (by first | assumption | decide) (by walk_at "om") (by walk_at "om") (by walk_at "om") (by walk_at "om") (by assumption)) ?_))
local macro_rules | `(tactic| walk_at "call") => `(tactic| (with_reducible show WR (p_restore_point _ _) _; with_reducible refine WR.eqv (restore_non (by first | assumption | decide) (by walk_at "om") (by walk_at "om") (by walk_at "om") (by walk_at "om") (by assumption)) ?_))
local macro_rules | `(tactic| walk_at "call") => `(tactic| (with_reducible show WR (p_distance _ _) _; with_reducible refine WR.eqv (distance_int (by first | assumption | decide) (by walk_at "om") (by walk_at "om") (by walk_at "om") (by walk_at "om") (by assumption)) ?_))
local macro_rules | `(tactic| walk_at "call") => `(tactic| (with_reducible show WR (p_distance _ _) _; with_reducible refine WR.eqv (distance_non (by first | assumption | decide) (by walk_at "om") (by walk_at "om") (by walk_at "om") (by walk_at "om") (by assumption)) ?_))

def q_pot : List D → List Cell → R D := fnM 2 4 (seqS (asgS (ifV (boolM (opM ltD (seeM 1) (bltM lenF (consM (seeM 0) (nilM))))) (opM ixD (seeM 0) (seeM 1)) (opM addD (opM mulD (conM (.int 17)) (seeM 1)) (conM (.int 3)))) (tgN 2))
    (seqS (asgS (ifV (boolM (opM geD (bltM absF (consM (seeM 2) (nilM))) (conM (.int 1000000000000000000)))) (opM modD (bltM absF (consM (seeM 2) (nilM))) (conM (.int 1000000000000000000000000000000000000000000000000000000000000000000000000000000000000000000000000000000000000000000000000000000000000000000000000000000000000000000000000000000000000))) (conM (.int 0))) (tgN 3))
    (retCell (fitM (consM (varM 3) (consM (opM modD (opM addD (opM addD (opM mulD (opM modD (seeM 2) (conM (.int 2305843009213693951))) (conM (.int 69621))) (opM mulD (opM mulD (conM (.int 104729)) (seeM 1)) (seeM 1))) (conM (.int 71))) (conM (.int 2305843009213693921))) (consM (conM (.int 0)) (nilM))))))))
def q_take : List D → List Cell → R D := fnM 2 5 (seqS (ifS (boolM (opM gtD (opM ixD (seeM 0) (conM (.int 0))) (conM (.int 0))))
    (seqS (asgS (opM modD (opM ixD (seeM 0) (conM (.int 0))) (seeM 1)) (tgN 4))
    (seqS (setS 0 (conM (.int 0)) (opM fdivD (opM ixD (seeM 0) (conM (.int 0))) (seeM 1)))
    (retS (varM 4))))
    (skipS))
    (seqS (setS 0 (conM (.int 2)) (opM addD (opM ixD (seeM 0) (conM (.int 2))) (conM (.int 1))))
    (seqS (asgS (opM ixD (valM (fitM (consM (conM (.int 2147483647)) (consM (conM (.int 2147483629)) (consM (conM (.int 2147483587)) (consM (conM (.int 2147483579)) (consM (conM (.int 2147483563)) (nilM)))))))) (opM modD (opM ixD (seeM 0) (conM (.int 2))) (conM (.int 5)))) (tgN 2))
    (seqS (asgS (opM modD (opM powD (opM addD (opM addD (opM ixD (seeM 0) (conM (.int 1))) (opM mulD (opM mulD (conM (.int 40009)) (opM ixD (seeM 0) (conM (.int 2)))) (opM ixD (seeM 0) (conM (.int 2))))) (conM (.int 31))) (conM (.int 3))) (seeM 2)) (tgN 3))
    (retS (opM modD (opM fdivD (opM modD (opM mulD (seeM 3) (opM addD (opM modD (seeM 3) (conM (.int 10009))) (opM mulD (conM (.int 89)) (opM ixD (seeM 0) (conM (.int 2)))))) (conM (.int 2305843009213693907))) (conM (.int 89))) (seeM 1)))))))
def q_pick : List D → List Cell → R D := fnM 2 2 (retS (opM ixD (seeM 1) (callM 2 q_take (consM (varM 0) (consM (bltM lenF (consM (seeM 1) (nilM))) (nilM))))))
def q_zeros : List D → List Cell → R D := fnM 1 2 (seqS (asgS (conM (.int 0)) (tgN 1))
    (seqS (whL (andB (boolM (opM gtD (seeM 0) (conM (.int 0)))) (boolM (opM eqA (opM modD (seeM 0) (conM (.int 2))) (conM (.int 0)))))
    (parS 0 1 (opM fdivD (seeM 0) (conM (.int 2))) (opM addD (seeM 1) (conM (.int 1)))) 100000)
    (retS (ifV (boolM (opM gtD (seeM 0) (conM (.int 0)))) (varM 1) (conM (.int 1000))))))

/-- a pot that has B draws left at least -/
def Pot (g : List Cell) (n B : Nat) : Prop := ∃ a b c : Int, g[n]? = some (.lst [.int a, .int b, .int c]) ∧ 0 ≤ a ∧ (0 ≤ b ∧ b < 2305843009213693951) ∧ 0 ≤ c ∧ c + B ≤ 4194304
def But (n : Nat) (g g' : List Cell) : Prop := g'.length = g.length ∧ ∀ m, m ≠ n → g'[m]? = g[m]?
theorem But.refl (n : Nat) (g : List Cell) : But n g g := ⟨rfl, fun _ _ => rfl⟩
theorem But.trans {n : Nat} {g g1 g2 : List Cell} (h : But n g g1) (k : But n g1 g2) : But n g g2 := ⟨k.1.trans h.1, fun m hm => (k.2 m hm).trans (h.2 m hm)⟩
theorem But.set (n : Nat) (g : List Cell) (c : Cell) : But n g (g.set n c) := ⟨List.length_set .., fun m hm => List.getElem?_set_ne (fun z => hm z.symm)⟩
theorem Pot.less {g : List Cell} {n B B' : Nat} (h : Pot g n B) (k : B' ≤ B) : Pot g n B' := by
  obtain ⟨a, b, c, h1, h2, h3, h4, h5⟩ := h
  exact ⟨a, b, c, h1, h2, h3, h4, by omega⟩
theorem Pot.but {g g' : List Cell} {n m B : Nat} (h : Pot g n B) (k : But m g g') (hm : n ≠ m) : Pot g' n B := by
  obtain ⟨a, b, c, h1, h2⟩ := h
  exact ⟨a, b, c, by rw [k.2 n hm]; exact h1, h2⟩
theorem take_wp {g : List Cell} {n B : Nat} {k : Int} (h : Pot g n (B + 1)) (hk : 0 < k) (hk2 : k < 18446744073709551616) : WR (q_take [.g n, .int k] g) fun d g' => ∃ r, d = .int r ∧ 0 ≤ r ∧ r < k ∧ Pot g' n B ∧ But n g g' := by
  obtain ⟨a, b, c, h1, h2, h3, h4, h5⟩ := h
  refine wp_fn rfl ?_
  walk_at "wp"
  · exact ⟨Int.emod_nonneg _ (by omega), Int.emod_lt_of_pos _ hk, ⟨a / k, b, c, cset_get h1, Int.ediv_nonneg h2 (by omega), h3, h4, by omega⟩, But.set ..⟩
  · obtain ⟨d, hd, e⟩ := atI_mem (ds := [D.int 2147483647, D.int 2147483629, D.int 2147483587, D.int 2147483579, D.int 2147483563]) (i := (c + 1) % 5) (by omega) (by simp only [List.length_cons, List.length_nil]; omega)
    have hp : ∃ p : Int, d = .int p ∧ 0 < p ∧ p < 2147483648 := by
      simp only [List.mem_cons, List.not_mem_nil, or_false] at hd
      rcases hd with rfl | rfl | rfl | rfl | rfl <;> exact ⟨_, rfl, by omega, by omega⟩
    obtain ⟨p, rfl, p1, p2⟩ := hp
    have q1 : (c + 1) * (c + 1) ≤ 4194304 * 4194304 := Int.mul_le_mul (by omega) (by omega) (by omega) (by omega)
    have q2 : 0 ≤ (c + 1) * (c + 1) := Int.mul_nonneg (by omega) (by omega)
    have q3 : 40009 * (c + 1) * (c + 1) = 40009 * ((c + 1) * (c + 1)) := Int.mul_assoc ..
    have m1 := Int.emod_nonneg ((b + 40009 * (c + 1) * (c + 1) + 31) ^ Int.toNat 3) (show p ≠ 0 by omega)
    have m2 := Int.emod_lt_of_pos ((b + 40009 * (c + 1) * (c + 1) + 31) ^ Int.toNat 3) p1
    refine ⟨_, e, ?_⟩
    walk_at "wp"
    exact ⟨Int.emod_nonneg _ (by omega), Int.emod_lt_of_pos _ hk, ⟨a, b, c + 1, cset_get h1, h2, h3, by omega, by omega⟩, But.set ..⟩
theorem pick_wp {g : List Cell} {n B : Nat} {ds : List D} (h : Pot g n (B + 1)) (hk : 0 < ds.length) (hk2 : ds.length ≤ 16777216) : WR (q_pick [.g n, .lst ds] g) fun d g' => d ∈ ds ∧ Pot g' n B ∧ But n g g' := by
  refine wp_fn rfl ?_
  walk_at "wp"
  refine (take_wp h (by omega) (by omega)).mono fun d g1 ⟨r, e, r1, r2, p, u⟩ => ?_
  subst e
  obtain ⟨d, hd, e⟩ := atI_mem r1 r2
  exact ⟨d, e, hd, p, u⟩
theorem pot_wp {g : List Cell} {ns : List Int} {k : Int} (h0 : 0 ≤ k) (h1 : k < 1000000) : WR (q_pot [.sc ns, .int k] g) fun d g' => d = .g g.length ∧ (∃ c, g' = g ++ [c]) ∧ Pot g' g.length 4194304 := by
  have q1 : k * k ≤ 1000000 * 1000000 := Int.mul_le_mul (by omega) (by omega) (by omega) (by omega)
  have q2 : 0 ≤ k * k := Int.mul_nonneg (by omega) (by omega)
  have q3 : 104729 * k * k = 104729 * (k * k) := Int.mul_assoc ..
  refine wp_fn rfl ?_
  refine wp_seq (wp_asgN (Eq.refl 2) ?_)
  refine WR.mono (P := fun d g1 => g1 = g ∧ ∃ cell, d = .int cell) ?_ fun d g1 ⟨e1, cell, e2⟩ => ?_
  · walk_at "wp"
    · obtain ⟨z, hz, e⟩ := atI_mem (ds := ns) h0 (by assumption)
      exact ⟨.int z, by show Option.map _ _ = _; rw [e]; rfl, rfl, _, rfl⟩
    · exact ⟨_, rfl⟩
  · subst e1; subst e2
    have hl : ∀ c : Cell, (g1 ++ [c])[g1.length]? = some c := fun c => by simp
    walk_at "wp"
    · refine ⟨⟨_, rfl⟩, ?_⟩
      exact ⟨_, _, _, hl _, Int.emod_nonneg _ (by decide), ⟨Int.emod_nonneg _ (by decide), Int.lt_trans (Int.emod_lt_of_pos _ (by decide)) (by decide)⟩, by decide, by decide⟩
    · refine ⟨⟨_, rfl⟩, ?_⟩
      exact ⟨_, _, _, hl _, by decide, ⟨Int.emod_nonneg _ (by decide), Int.lt_trans (Int.emod_lt_of_pos _ (by decide)) (by decide)⟩, by decide, by decide⟩
/-- how many zeros stand at the end -/
def tz (p : Nat) : Nat := if h : 0 < p ∧ p % 2 = 0 then tz (p / 2) + 1 else 0
theorem tz_spec (p : Nat) (h : 0 < p) : ∃ m, p = (2 * m + 1) * 2 ^ tz p := by
  induction p using tz.induct with
  | case1 p hp ih =>
    obtain ⟨m, hm⟩ := ih (by omega)
    refine ⟨m, ?_⟩
    rw [tz, dif_pos hp, Nat.pow_succ, ← Nat.mul_assoc, ← hm]
    omega
  | case2 p hp => exact ⟨p / 2, by rw [tz, dif_neg hp]; omega⟩
theorem tz_lt {p n : Nat} (h : 0 < p) (k : p < 2 ^ n) : tz p < n := by
  obtain ⟨m, hm⟩ := tz_spec p h
  apply Nat.lt_of_not_le
  intro q
  have := Nat.pow_le_pow_right (show 2 > 0 by decide) q
  have : 2 ^ tz p ≤ (2 * m + 1) * 2 ^ tz p := Nat.le_mul_of_pos_left _ (by omega)
  omega
theorem tz_even {p : Nat} (h : 0 < p) (k : p % 2 = 0) : tz p = tz (p / 2) + 1 := by rw [tz, dif_pos ⟨h, k⟩]
theorem tz_odd {p : Nat} (k : p % 2 ≠ 0) : tz p = 0 := by rw [tz, dif_neg fun z => k z.2]
theorem tz_odd_zero {p : Nat} (k : p = 0) : tz p = 0 := by rw [tz, dif_neg fun z => by omega]
theorem zeros_wp {g : List Cell} {p : Nat} (h : tz p < 100000) : WR (q_zeros [.int p] g) fun d g' => g' = g ∧ d = .int (if 0 < p then (tz p : Int) else 1000) := by
  refine wp_fn rfl ?_
  walk_at "wp"
  refine wp_whN (fun k e g' => g' = g ∧ ∃ q z : Nat, k = tz q ∧ e = [.v (.int q), .v (.int z)] ∧ (0 < p → 0 < q ∧ tz p = tz q + z) ∧ (p = 0 → q = 0)) h ⟨rfl, p, 0, rfl, rfl, fun h => ⟨h, rfl⟩, fun h => h⟩ ?_
  rintro k e _ ⟨rfl, q, z, rfl, rfl, h1, h2⟩
  walk_at "wp"
  · rename_i a1 a2
    have e1 := tz_even (p := q) (by omega) (by omega)
    refine ⟨tz (q / 2), by omega, rfl, q / 2, z + 1, rfl, rfl, fun h => ?_, fun h => ?_⟩
    · have := h1 h; omega
    · have := h2 h; omega
  · rename_i a1 a2 a3
    have e1 := tz_odd (p := q) (by omega)
    by_cases hp : 0 < p
    · rw [if_pos hp, (h1 hp).2, e1, Nat.zero_add]
    · have := h2 (by omega); omega
  · by_cases hp : 0 < p
    · have := h1 hp; omega
    · rw [if_neg hp]

/-! Co: ranks of points, points in rules -/
def p_rank : List D → List Cell → R D := fnM 1 1 (retS (ifV (boolM (opM gtD (seeM 0) (conM (.int 0)))) (opM subD (unM bitsD (opM andD (seeM 0) (unM negD (seeM 0)))) (conM (.int 1))) (conM .non)))
def p_Rule_contains : List D → List Cell → R D := fnM 2 5 (seqS (ifS (orB (notB (boolM (unM (isiD "tuple") (varM 1)))) (orB (boolM (opM neA (bltM lenF (consM (seeM 1) (nilM))) (conM (.int 2)))) (notB (boolM (bltM allF (consM (valM (lcM (seqIt (varM 1)) (tgN 4) (yesB) (callM 1 (fun ds g => p_is_integer (ds ++ [.non]) g) (consM (varM 4) (nilM))) [4])) (nilM)))))))
    (retS (conM (.bl false)))
    (skipS))
    (seqS (asgS (varM 1) (tgT 2 (tgs1 (tgN 2) (tgs1 (tgN 3) (tgs0)))))
    (retS (andV (opM leD (seeM 2) (seeM 3)) (callM 2 p_is_at_least (consM (callM 2 p_life_of (consM (unM (fldD 2) (varM 0)) (consM (callM 1 p_rank (consM (varM 2) (nilM))) (nilM)))) (consM (opM addD (opM subD (seeM 3) (seeM 2)) (conM (.int 1))) (nilM))))))))
theorem and_pred (p : Nat) (h : 0 < p) : p &&& (p - 1) = p - 2 ^ tz p ∧ 2 ^ tz p ≤ p := by
  have hm : (p &&& (p - 1)) % 2 = 0 := by
    have := Nat.and_mod_two_pow (a := p) (b := p - 1) (n := 1)
    rw [Nat.pow_one] at this
    rw [this]
    by_cases q : p % 2 = 0
    · rw [q, Nat.zero_and]
    · rw [show (p - 1) % 2 = 0 by omega, Nat.and_zero]
  have hd := Nat.and_div_two (a := p) (b := p - 1)
  induction p using tz.induct with
  | case1 p hp ih =>
    have hm' : (p / 2 &&& (p / 2 - 1)) % 2 = 0 := by
      have := Nat.and_mod_two_pow (a := p / 2) (b := p / 2 - 1) (n := 1)
      rw [Nat.pow_one] at this
      rw [this]
      by_cases q : p / 2 % 2 = 0
      · rw [q, Nat.zero_and]
      · rw [show (p / 2 - 1) % 2 = 0 by omega, Nat.and_zero]
    obtain ⟨i1, i2⟩ := ih (by omega) hm' (Nat.and_div_two ..)
    rw [show (p - 1) / 2 = p / 2 - 1 by omega, i1] at hd
    rw [tz_even hp.1 hp.2, Nat.pow_succ]
    omega
  | case2 p hp =>
    have : p % 2 ≠ 0 := fun z => hp ⟨h, z⟩
    rw [tz_odd this, Nat.pow_zero]
    rw [show (p - 1) / 2 = p / 2 by omega, Nat.and_self] at hd
    omega
theorem rank_wp {g : List Cell} {p : Nat} : WR (p_rank [.int p] g) fun d g' => g' = g ∧ d = if 0 < p then .int (tz p) else .non := by
  refine wp_fn rfl ?_
  walk_at "wp"
  · rename_i hp
    have hp' : 0 < p := by omega
    have e : Builtin.bitAnd (p : Int) (-(p : Int)) = ((2 ^ tz p : Nat) : Int) := by
      unfold Builtin.bitAnd
      rw [decide_eq_true (show (0 : Int) ≤ p by omega), decide_eq_false (show ¬ (0 : Int) ≤ -(p : Int) by omega)]
      obtain ⟨a1, a2⟩ := and_pred p hp'
      show (p : Int) - ((Int.toNat p &&& Int.toNat (- -(p : Int) - 1) : Nat) : Int) = _
      rw [show Int.toNat (- -(p : Int) - 1) = p - 1 by omega, Int.toNat_natCast, a1]
      omega
    rw [e, if_pos hp']
    congr 1
    unfold Builtin.Int.intBits
    have h2 : 0 < 2 ^ tz p := Nat.two_pow_pos _
    rw [if_neg (by simp only [beq_iff_eq]; omega), Int.natAbs_natCast, Nat.log2_two_pow]
    omega
  · rename_i hp
    rw [if_neg (by omega)]
theorem cap_tz {m p : Nat} (hm : m ≤ 1000) : cap m (p : Int) = min m (if 0 < p then tz p else 1000) := by
  by_cases h : 0 < p
  · rw [if_pos h]
    obtain ⟨k, hk⟩ := tz_spec p h
    have h1 : ((p : Int)) % 2 ^ tz p = 0 := by
      have : (p : Int) = (2 * (k : Int) + 1) * 2 ^ tz p := by exact_mod_cast hk
      rw [this]
      exact Int.mul_emod_left _ _
    have h2 : (p : Int) % 2 ^ (tz p + 1) ≠ 0 := fun z => by
      obtain ⟨c, hc⟩ := Int.dvd_of_emod_eq_zero z
      have : (p : Int) = (2 * (k : Int) + 1) * 2 ^ tz p := by exact_mod_cast hk
      rw [this, Int.pow_succ, Int.mul_comm (2 * (k : Int) + 1), Int.mul_assoc] at hc
      have := Int.eq_of_mul_eq_mul_left (show (2 : Int) ^ tz p ≠ 0 by have := pw_pos (tz p); omega) hc
      omega
    by_cases q : tz p < m
    · rw [Nat.min_eq_right (by omega)]
      exact cap_eq (by omega) h1 (.inr h2)
    · rw [Nat.min_eq_left (by omega)]
      exact cap_eq (Nat.le_refl _) (mod_down (by omega) h1) (.inl rfl)
  · rw [if_neg h, show p = 0 by omega, Nat.min_eq_left hm]
    exact cap_zero m
def rankO (p : Int) : Option Int := if 0 < p then some (tz p.toNat : Nat) else none
theorem rank_int {g : List Cell} {p : Int} (h0 : 0 ≤ p) : WR (p_rank [.int p] g) fun d g' => g' = g ∧ d = lfD (rankO p) := by
  obtain ⟨n, rfl⟩ : ∃ n : Nat, p = n := ⟨p.toNat, by omega⟩
  refine (rank_wp (g := g) (p := n)).mono fun d g' ⟨e, h⟩ => ⟨e, ?_⟩
  rw [h]
  unfold rankO
  by_cases q : 0 < n
  · rw [if_pos q, if_pos (by omega), Int.toNat_natCast]; rfl
  · rw [if_neg q, if_neg (by omega)]; rfl
local macro_rules | `(tactic| walk_at "call") => `(tactic| (with_reducible show WR (p_rank _ _) _; with_reducible refine WR.eqv (rank_int (by walk_at "om")) ?_))
theorem life_rank {g : List Cell} {L : List Lf} {p : Int} (h : 0 < L.length) (h2 : L.length ≤ 1000) (h0 : 0 ≤ p) : WR (p_life_of [lvD L, lfD (rankO p)] g) fun d g' => g' = g ∧ d = lfD (lfp L p) := by
  obtain ⟨n, rfl⟩ : ∃ n : Nat, p = n := ⟨p.toNat, by omega⟩
  have hc := cap_tz (m := L.length - 1) (p := n) (by omega)
  unfold rankO
  by_cases q : 0 < n
  · rw [if_pos (by omega)]
    rw [if_pos q] at hc
    have e : fl L (tz n) = lfp L n := by unfold lfp fl; rw [hc, Nat.min_comm]
    have := life_of_wp (g := g) (L := L) (i := (tz n : Nat)) h (by omega)
    rw [Int.toNat_natCast, e] at this
    rw [Int.toNat_natCast]
    exact this
  · rw [if_neg (by omega)]
    rw [if_neg q] at hc
    refine wp_fn rfl ?_
    walk_at "wp"
    unfold lfp
    rw [hc, Nat.min_eq_left (by omega)]
local macro_rules | `(tactic| walk_at "call") => `(tactic| (with_reducible show WR (p_life_of _ _) _; with_reducible refine WR.eqv (life_rank (by walk_at "om") (by walk_at "om") (by walk_at "om")) ?_))
theorem contains_wp {g : List Cell} {c : Nat} {L : List Lf} {p t : Int} (hc : c < 2) (h1 : 0 < L.length) (h2 : L.length ≤ 1000) : WR (p_Rule_contains [ruD c L, .tup [.int p, .int t]] g) fun d g' => g' = g ∧ d = .bl (decide (Kp L t p)) := by
  refine wp_fn rfl ?_
  walk_at "wp"
  refine lcMap (f := D.int) (xs := [p, t]) (fun x => .bl (decide (0 ≤ x))) ?_ ?_
  · intro i x hx
    refine ⟨_, rfl, ?_⟩
    show WR (callM 1 _ _ [_, _, _, _, .v (.int x)] _) _
    walk_at "wp"
  · walk_at "wp"
    rw [show ([p, t].all fun x => decide (0 ≤ x)) = decide (0 ≤ p ∧ 0 ≤ t) by simp [List.all_cons]]
    walk_at "wp"
    · rename_i q
      exact congrArg D.bl (decide_eq_false fun z => q ⟨z.1, by have := z.1; have := z.2.1; omega⟩).symm
    · rename_i q0 q1
      exact congrArg D.bl (decide_eq_decide.mpr ⟨fun z => ⟨q0.1, q1, z⟩, fun z => z.2.2⟩)
    · rename_i q0 q1
      exact congrArg D.bl (decide_eq_false fun z => q1 z.2.1).symm
theorem kRuIn_wp {g : List Cell} {c : Nat} {L : List Lf} {p t : Int} {P : D → List Cell → Prop} (hc : c < 2) (h1 : 0 < L.length) (h2 : L.length ≤ 1000) (h : P (.bl (decide (Kp L t p))) g) : WR (kRuIn false p_Rule_contains (.tup [.int p, .int t]) (ruD c L) g) P :=
  wp_kRuIn hc (WR.eqv (contains_wp hc h1 h2) ⟨_, rfl, h⟩)
theorem kRuIn_short {g : List Cell} {c : Nat} {L : List Lf} {p t : Int} {P : D → List Cell → Prop} (hc : c < 2) (h1 : 0 < L.length) (h2 : L.length ≤ 1000) (h : P (.bl (decide (Kp L t p))) g) : WR (kRuIn false p_Rule_contains (.tup [.int p, .int t]) (ruD c (short L)) g) P := by
  have k1 := short_pos h1
  have k2 := short_le L
  refine kRuIn_wp hc k1 (by omega) ?_
  rwa [decide_eq_decide.mpr (Kp_short h1)]
theorem kRnIn_wp {g : List Cell} {c : Nat} {L : List Lf} {p t : Int} {P : D → List Cell → Prop} (hc : c < 2) (h1 : 0 < L.length) (h2 : L.length ≤ 1000) (h : P (.bl (!decide (Kp L t p))) g) : WR (kRuIn true p_Rule_contains (.tup [.int p, .int t]) (ruD c L) g) P :=
  wp_kRuIn hc (WR.eqv (contains_wp hc h1 h2) ⟨_, rfl, h⟩)
theorem kRnIn_short {g : List Cell} {c : Nat} {L : List Lf} {p t : Int} {P : D → List Cell → Prop} (hc : c < 2) (h1 : 0 < L.length) (h2 : L.length ≤ 1000) (h : P (.bl (!decide (Kp L t p))) g) : WR (kRuIn true p_Rule_contains (.tup [.int p, .int t]) (ruD c (short L)) g) P := by
  have k1 := short_pos h1
  have k2 := short_le L
  refine kRnIn_wp hc k1 (by omega) ?_
  rwa [decide_eq_decide.mpr (Kp_short h1)]
local macro_rules | `(tactic| walk_at "call") => `(tactic| (with_reducible show WR (kRuIn _ _ _ _ _) _; with_reducible refine kRuIn_wp (by first | assumption | decide) (by walk_at "om") (by walk_at "om") ?_))
local macro_rules | `(tactic| walk_at "call") => `(tactic| (with_reducible show WR (kRuIn _ _ _ _ _) _; with_reducible refine kRnIn_wp (by first | assumption | decide) (by walk_at "om") (by walk_at "om") ?_))
local macro_rules | `(tactic| walk_at "call") => `(tactic| (with_reducible show WR (kRuIn _ _ _ _ _) _; with_reducible refine kRuIn_short (by first | assumption | decide) (by walk_at "om") (by walk_at "om") ?_))
local macro_rules | `(tactic| walk_at "call") => `(tactic| (with_reducible show WR (kRuIn _ _ _ _ _) _; with_reducible refine kRnIn_short (by first | assumption | decide) (by walk_at "om") (by walk_at "om") ?_))

/-! CA: the greatest count at any tick -/
def p_count_at : List D → List Cell → R D := fnM 3 3 (retS (ifV (boolM (opM leD (seeM 0) (seeM 1))) (conM (.int 0)) (opM addD (opM fdivD (opM subD (opM subD (seeM 0) (conM (.int 1))) (seeM 1)) (seeM 2)) (conM (.int 1)))))
def p_one_bit_more : List D → List Cell → R D := fnM 3 11 (seqS (parS 3 4 (dNewM) (callM 1 p_size_of (consM (varM 2) (nilM))))
    (seqS (lckS 0 (forS (itemsIt 0) (tgT 2 (tgs1 (tgN 5) (tgs1 (tgN 6) (tgs0))))
    (forS (seqIt (tupM (consM (conM (.int 0)) (consM (conM (.int 1)) (nilM))))) (tgN 7)
    (seqS (asgS (ifV (boolM (opM eqA (seeM 7) (conM (.int 1)))) (varM 6) (opM addD (seeM 6) (seeM 4))) (tgN 8))
    (seqS (parS 9 10 (opM addD (seeM 5) (callM 3 p_count_at (consM (varM 1) (consM (varM 8) (consM (opM mulD (conM (.int 2)) (seeM 4)) (nilM)))))) (opM addD (seeM 6) (opM mulD (seeM 7) (seeM 4))))
    (ifS (orB (boolM (opM (dinD true) (varM 9) (varM 3))) (boolM (opM ltD (seeM 10) (opM dgetD (varM 3) (varM 9)))))
    (dputS (varM 10) (varM 3) (varM 9))
    (skipS)))))))
    (retS (varM 3))))
def p_most : List D → List Cell → R D := fnM 1 9 (seqS (asgS (unM (fldD 2) (varM 0)) (tgStar 2 (tgs1 (tgN 8) (tgs1 (tgN 3) (tgs0)))))
    (seqS (ifS (boolM (opM isND (seeM 3) (conM .non)))
    (retS (conM .non))
    (skipS))
    (seqS (asgS (dOneM 0 0) (tgN 1))
    (seqS (forS (enumIt (consM (varM 8) (nilM))) (tgT 2 (tgs1 (tgN 4) (tgs1 (tgN 5) (tgs0))))
    (asgS (callDM 3 p_one_bit_more (consM (varM 1) (consM (varM 5) (consM (varM 4) (nilM))))) (tgN 1)))
    (seqS (asgS (callM 1 p_size_of (consM (bltM lenF (consM (seeM 8) (nilM))) (nilM))) (tgN 2))
    (seqS (asgS (bltM maxTF (consM (valM (lckM 1 (lcM (itemsIt 1) (tgT 2 (tgs1 (tgN 6) (tgs1 (tgN 7) (tgs0)))) (yesB) (tupM (consM (opM addD (seeM 6) (callM 3 p_count_at (consM (varM 3) (consM (varM 7) (consM (varM 2) (nilM)))))) (consM (varM 7) (nilM)))) [6, 7]))) (nilM))) (tgT 2 (tgs1 (tgN 6) (tgs1 (tgN 7) (tgs0)))))
    (retS (tupM (consM (varM 6) (consM (opM addD (seeM 7) (opM mulD (opM addD (opM fdivD (seeM 3) (seeM 2)) (conM (.int 1))) (seeM 2))) (nilM)))))))))))
/-- points with a life: the youngest at the age y, the others d apart -/
def caI (l y d : Int) : Int := if l ≤ y then 0 else (l - 1 - y) / d + 1
theorem count_at_wp {g : List Cell} {l y d : Int} (h0 : 0 < d) (h1 : d < 18446744073709551616) : WR (p_count_at [.int l, .int y, .int d] g) fun r g' => g' = g ∧ r = .int (caI l y d) := by
  refine wp_fn rfl ?_
  unfold caI
  walk_at "wp"
  · rename_i q
    rw [if_pos q]
  · rename_i q
    rw [if_neg q]
local macro_rules | `(tactic| walk_at "call") => `(tactic| (with_reducible show WR (p_count_at _ _) _; with_reducible refine WR.eqv (count_at_wp (by walk_at "om") (by walk_at "om")) ?_))
theorem caI_eq {l y d : Int} (h0 : 0 < d) (hl : 0 ≤ l) (y0 : 0 ≤ y) (y1 : y < d) : caI l y d = l / d + if y < l % d then 1 else 0 := by
  have e := Int.emod_add_mul_ediv l d
  have r0 := Int.emod_nonneg l (show d ≠ 0 by omega)
  have r1 := Int.emod_lt_of_pos l h0
  have q0 := Int.ediv_nonneg hl (show 0 ≤ d by omega)
  generalize l / d = q at e q0 ⊢
  generalize l % d = r at e r0 r1 ⊢
  unfold caI
  by_cases z : q = 0
  · subst z
    rw [Int.mul_zero] at e
    by_cases w : y < r
    · rw [if_neg (by omega), if_pos w, Int.ediv_eq_zero_of_lt (by omega) (by omega)]
    · rw [if_pos (by omega), if_neg w]; rfl
  · have hq : d * 1 ≤ d * q := Int.mul_le_mul_of_nonneg_left (by omega) (by omega)
    rw [if_neg (by omega)]
    by_cases w : y < r
    · rw [if_pos w, show l - 1 - y = r - 1 - y + d * q by omega, Int.add_mul_ediv_left _ _ (by omega), Int.ediv_eq_zero_of_lt (by omega) (by omega)]
      omega
    · rw [if_neg w, show l - 1 - y = d + r - 1 - y + d * (q - 1) by rw [Int.mul_sub, Int.mul_one]; omega, Int.add_mul_ediv_left _ _ (by omega), Int.ediv_eq_zero_of_lt (by omega) (by omega)]
      omega
theorem caI_anti {l y z d : Int} (h0 : 0 < d) (h : y ≤ z) : caI l z d ≤ caI l y d := by
  unfold caI
  by_cases q : l ≤ z
  · rw [if_pos q]
    split
    · exact Int.le_refl _
    · have := Int.ediv_nonneg (show 0 ≤ l - 1 - y by omega) (show 0 ≤ d by omega)
      omega
  · rw [if_neg q, if_neg (by omega)]
    have := Int.ediv_le_ediv h0 (show l - 1 - z ≤ l - 1 - y by omega)
    omega
/-- the age of the youngest point of the rank i, by the tick's low digits -/
def yoI (i : Nat) (e : Int) : Int := if e / 2 ^ i % 2 = 1 then e % 2 ^ i else e % 2 ^ i + 2 ^ i
/-- the points of the first ranks, the ticks' low digits being e -/
def cnI (ls : List Int) : Nat → Int → Int
  | 0, _ => 0
  | i + 1, e => cnI ls i e + caI (ls.getD i 0) (yoI i e) (2 * 2 ^ i)
theorem emod_down {i j : Nat} {e : Int} (h : j < i) : e % 2 ^ i % 2 ^ j = e % 2 ^ j := by
  obtain ⟨k, rfl⟩ : ∃ k, i = j + k := ⟨i - j, by omega⟩
  have hs := pw_pos j
  have h1 := Int.emod_add_mul_ediv e (2 ^ (j + k))
  generalize hr : e % 2 ^ (j + k) = r at h1 ⊢
  generalize e / 2 ^ (j + k) = q at h1
  rw [← h1, Int.pow_add, Int.mul_assoc, Int.add_mul_emod_self_left]
theorem yoI_mod {i j : Nat} {e : Int} (h : j < i) : yoI j (e % 2 ^ i) = yoI j e := by
  have hs := pw_pos j
  have e1 : e % 2 ^ i % 2 ^ j = e % 2 ^ j := emod_down (by omega)
  have e2 : e % 2 ^ i / 2 ^ j % 2 = e / 2 ^ j % 2 := by
    obtain ⟨k, rfl⟩ : ∃ k, i = j + 1 + k := ⟨i - j - 1, by omega⟩
    have h1 := Int.emod_add_mul_ediv e (2 ^ (j + 1 + k))
    have h2 : (2 : Int) ^ (j + 1 + k) = 2 ^ j * (2 * 2 ^ k) := by rw [Int.pow_add, Int.pow_succ, Int.mul_assoc]
    generalize hr : e % 2 ^ (j + 1 + k) = r at h1 ⊢
    generalize e / 2 ^ (j + 1 + k) = q at h1
    rw [← h1, h2, Int.mul_assoc, Int.add_mul_ediv_left _ _ (by omega), Int.mul_assoc, Int.add_mul_emod_self_left]
  unfold yoI
  rw [e1, e2]
theorem cnI_mod {ls : List Int} {e : Int} : ∀ {i n : Nat}, i ≤ n → cnI ls i (e % 2 ^ n) = cnI ls i e
  | 0, _, _ => rfl
  | i + 1, n, h => by
    unfold cnI
    rw [cnI_mod (by omega), yoI_mod (by omega)]
theorem yoI_bd {i : Nat} {e : Int} : 0 ≤ yoI i e ∧ yoI i e < 2 * 2 ^ i := by
  have hs := pw_pos i
  have r0 := Int.emod_nonneg e (show (2 : Int) ^ i ≠ 0 by omega)
  have r1 := Int.emod_lt_of_pos e hs
  unfold yoI
  split <;> omega
/-- what each rank holds at least -/
def bsI (ls : List Int) : Nat → Int
  | 0 => 0
  | i + 1 => bsI ls i + ls.getD i 0 / (2 * 2 ^ i)
theorem cnI_bd {ls : List Int} (h : ∀ i, 0 ≤ ls.getD i 0) (e : Int) : ∀ i, bsI ls i ≤ cnI ls i e ∧ cnI ls i e ≤ bsI ls i + i
  | 0 => ⟨Int.le_refl _, Int.le_refl _⟩
  | i + 1 => by
    have ih := cnI_bd h e i
    have hs := pw_pos i
    unfold cnI bsI
    rw [caI_eq (by omega) (h i) yoI_bd.1 yoI_bd.2]
    split <;> omega
/-! ### the table -/
theorem valI_mem {f : List (Int × Int)} {k v : Int} (h : valI f k = some v) : (k, v) ∈ f := by
  unfold valI at h
  obtain ⟨p, h1, h2⟩ := Option.map_eq_some_iff.mp h
  have h3 : p.1 = k := of_decide_eq_true (List.find?_some (p := fun p : Int × Int => decide (p.1 = k)) h1)
  have h4 := List.mem_of_find?_eq_some h1
  rw [show (k, v) = p from by rw [← h3, ← h2]]
  exact h4
theorem valI_none {f : List (Int × Int)} {k : Int} (h : valI f k = none) : ∀ p ∈ f, p.1 ≠ k := by
  unfold valI at h
  have h := Option.map_eq_none_iff.mp h
  intro p hp z
  have := List.find?_eq_none.mp h p hp
  exact this (decide_eq_true z)
/-- the table holds the end l for the count w, or a lesser one -/
def stp (f : List (Int × Int)) (w l : Int) : List (Int × Int) := match valI f w with
  | none => putI f w l
  | some e => if l < e then putI f w l else f
theorem putI_new {f : List (Int × Int)} {w l : Int} (h : valI f w = none) : putI f w l = f ++ [(w, l)] := by
  unfold putI
  rw [if_neg]
  intro z
  obtain ⟨p, hp, e⟩ := List.any_eq_true.mp z
  exact valI_none h p hp (of_decide_eq_true e)
theorem putI_old {f : List (Int × Int)} {w l e : Int} (h : valI f w = some e) : putI f w l = f.map fun p => if p.1 = w then (p.1, l) else p := by
  unfold putI
  rw [if_pos]
  exact List.any_eq_true.mpr ⟨_, valI_mem h, decide_eq_true rfl⟩
theorem stp_mem {f : List (Int × Int)} {w l : Int} : ∀ p ∈ stp f w l, p ∈ f ∨ p = (w, l) := by
  intro p hp
  unfold stp at hp
  cases q : valI f w with
  | none =>
    rw [q] at hp
    simp only at hp
    rw [putI_new q] at hp
    rcases List.mem_append.mp hp with h | h
    · exact .inl h
    · exact .inr (List.mem_singleton.mp h)
  | some e =>
    rw [q] at hp
    simp only at hp
    split at hp
    · rw [putI_old q] at hp
      obtain ⟨r, hr, e2⟩ := List.mem_map.mp hp
      split at e2
      · rename_i z
        rw [← e2, z]; exact .inr rfl
      · rw [← e2]; exact .inl hr
    · exact .inl hp
theorem stp_has {f : List (Int × Int)} {w l : Int} : ∃ e, (w, e) ∈ stp f w l ∧ e ≤ l := by
  unfold stp
  cases q : valI f w with
  | none =>
    simp only
    rw [putI_new q]
    exact ⟨l, List.mem_append_right _ (List.mem_singleton.mpr rfl), Int.le_refl _⟩
  | some e =>
    simp only
    have hm := valI_mem q
    by_cases z : l < e
    · rw [if_pos z, putI_old q]
      exact ⟨l, List.mem_map.mpr ⟨_, hm, if_pos rfl⟩, Int.le_refl _⟩
    · rw [if_neg z]
      exact ⟨e, hm, by omega⟩
theorem stp_keys {f : List (Int × Int)} {w l : Int} (h : (f.map (·.1)).Nodup) : ((stp f w l).map (·.1)).Nodup := by
  unfold stp
  cases q : valI f w with
  | none =>
    simp only
    rw [putI_new q, List.map_append, List.nodup_append]
    refine ⟨h, by simp, fun a ha b hb z => ?_⟩
    obtain ⟨p, hp, rfl⟩ := List.mem_map.mp ha
    have hb : b = w := List.mem_singleton.mp hb
    exact valI_none q p hp (z.trans hb)
  | some e =>
    simp only
    split
    · rw [putI_old q, List.map_map]
      rw [show ((fun p : Int × Int => p.1) ∘ fun p : Int × Int => if p.1 = w then (p.1, l) else p) = fun p => p.1 by
        funext p
        show (if p.1 = w then (p.1, l) else p).1 = p.1
        split <;> rfl]
      exact h
    · exact h
theorem nodup_eq {f : List (Int × Int)} (h : (f.map (·.1)).Nodup) {c e e' : Int} (h1 : (c, e) ∈ f) (h2 : (c, e') ∈ f) : e = e' := by
  induction f with
  | nil => cases h1
  | cons p f ih =>
    have hn := List.nodup_cons.mp h
    rcases List.mem_cons.mp h1 with z1 | z1 <;> rcases List.mem_cons.mp h2 with z2 | z2
    · rw [← z1] at z2; cases z2; rfl
    · exact absurd (List.mem_map.mpr ⟨_, z2, by rw [← z1]⟩) hn.1
    · exact absurd (List.mem_map.mpr ⟨_, z1, by rw [← z2]⟩) hn.1
    · exact ih hn.2 z1 z2
theorem stp_keep {f : List (Int × Int)} {w l c e : Int} (h : (f.map (·.1)).Nodup) (hm : (c, e) ∈ f) : ∃ e', (c, e') ∈ stp f w l ∧ e' ≤ e := by
  unfold stp
  cases q : valI f w with
  | none =>
    simp only
    rw [putI_new q]
    exact ⟨e, List.mem_append_left _ hm, Int.le_refl _⟩
  | some e0 =>
    simp only
    by_cases z : l < e0
    · rw [if_pos z, putI_old q]
      by_cases hc : c = w
      · subst hc
        have := nodup_eq h hm (valI_mem q)
        exact ⟨l, List.mem_map.mpr ⟨_, hm, if_pos rfl⟩, by omega⟩
      · exact ⟨e, List.mem_map.mpr ⟨_, hm, if_neg hc⟩, Int.le_refl _⟩
    · rw [if_neg z]
      exact ⟨e, hm, Int.le_refl _⟩
/-- behind the first ranks -/
structure Tab (ls : List Int) (i : Nat) (f : List (Int × Int)) : Prop where
  keys : (f.map (·.1)).Nodup
  is : ∀ p ∈ f, 0 ≤ p.2 ∧ p.2 < 2 ^ i ∧ p.1 = cnI ls i p.2
/-- .. each tick's end is served -/
def Ful (ls : List Int) (i : Nat) (f : List (Int × Int)) : Prop := ∀ e : Int, 0 ≤ e → e < 2 ^ i → ∃ p ∈ f, cnI ls i e ≤ p.1 ∧ p.2 ≤ e
theorem nodup_len : ∀ (n : Nat) (lo : Int) (xs : List Int), xs.Nodup → (∀ x ∈ xs, lo ≤ x ∧ x < lo + n) → xs.length ≤ n
  | 0, lo, xs, _, h => by
    cases xs with
    | nil => exact Nat.le_refl _
    | cons x xs =>
      have := h x (List.mem_cons_self ..)
      omega
  | n + 1, lo, xs, hn, h => by
    have ih := nodup_len n lo (xs.erase (lo + n)) (hn.erase _) fun x hx => by
      obtain ⟨h1, h2⟩ := (List.Nodup.mem_erase_iff hn).mp hx
      have := h x h2
      omega
    rw [List.length_erase] at ih
    split at ih <;> omega
theorem Tab.len {ls : List Int} {i : Nat} {f : List (Int × Int)} (h : Tab ls i f) (hl : ∀ j, 0 ≤ ls.getD j 0) : f.length ≤ i + 1 := by
  have := nodup_len (i + 1) (bsI ls i) (f.map (·.1)) h.keys fun x hx => by
    obtain ⟨p, hp, rfl⟩ := List.mem_map.mp hx
    have := cnI_bd hl p.2 i
    rw [← (h.is p hp).2.2] at this
    show bsI ls i ≤ p.1 ∧ p.1 < bsI ls i + ((i + 1 : Nat) : Int)
    omega
  rwa [List.length_map] at this
theorem cnI_low {ls : List Int} {i : Nat} {e : Int} (h0 : 0 ≤ e) (h1 : e < 2 ^ i) : cnI ls (i + 1) e = cnI ls i e + caI (ls.getD i 0) (e + 2 ^ i) (2 * 2 ^ i) := by
  have hs := pw_pos i
  show cnI ls i e + caI _ (yoI i e) _ = _
  unfold yoI
  rw [Int.ediv_eq_zero_of_lt h0 h1, if_neg (by decide), Int.emod_eq_of_lt h0 h1]
theorem cnI_high {ls : List Int} {i : Nat} {e : Int} (h0 : 0 ≤ e) (h1 : e < 2 ^ i) : cnI ls (i + 1) (e + 2 ^ i) = cnI ls i e + caI (ls.getD i 0) e (2 * 2 ^ i) := by
  have hs := pw_pos i
  have e1 : (e + 2 ^ i) / 2 ^ i = 1 := by
    rw [show e + 2 ^ i = e + 2 ^ i * 1 by omega, Int.add_mul_ediv_left _ _ (by omega), Int.ediv_eq_zero_of_lt h0 h1]; rfl
  have e2 : (e + 2 ^ i) % 2 ^ i = e := by
    rw [Int.add_emod_right, Int.emod_eq_of_lt h0 h1]
  show cnI ls i (e + 2 ^ i) + caI _ (yoI i (e + 2 ^ i)) _ = _
  unfold yoI
  rw [e1, if_pos (by decide), e2, ← cnI_mod (Nat.le_refl i), e2]
theorem size_nat {g : List Cell} {i : Nat} (h : i ≤ 1000000) : WR (p_size_of [.int (i : Nat)] g) fun d g' => g' = g ∧ d = .int (2 ^ i) := by
  have := size_of_wp (g := g) (n := (i : Nat)) (by omega) (by omega)
  rwa [Int.toNat_natCast] at this
local macro_rules | `(tactic| walk_at "call") => `(tactic| (with_reducible show WR (p_size_of _ _) _; with_reducible refine WR.eqv (size_nat (by walk_at "om")) ?_))
theorem for_step {tg : D → Ev.Env → Option Ev.Env} {s1 : MS} {e e1 : Ev.Env} {g : List Cell} {N : Ev.Env → List Cell → Prop} {T : D → List Cell → Prop} {B C : Ev.Env → List Cell → Prop} {d : D} {ds : List D} (h1 : tg d e = some e1)
    (h : WS (s1 e1 g) (fun e2 g2 => WS (forL tg s1 ds e2 g2) N T B C) T N (fun e2 g2 => WS (forL tg s1 ds e2 g2) N T B C)) : WS (forL tg s1 (d :: ds) e g) N T B C := by
  rw [forL]
  simp only [h1]
  cases q : s1 e1 g with
  | nx e2 g2 => rw [q] at h; exact h
  | ct e2 g2 => rw [q] at h; exact h
  | bk e2 g2 => rw [q] at h; exact h
  | rt d g2 => rw [q] at h; exact h
  | ex c d g2 => rw [q] at h; exact h
  | bad => rw [q] at h; exact h
theorem for_nil {tg : D → Ev.Env → Option Ev.Env} {s1 : MS} {e : Ev.Env} {g : List Cell} {N : Ev.Env → List Cell → Prop} {T : D → List Cell → Prop} {B C : Ev.Env → List Cell → Prop} (h : N e g) : WS (forL tg s1 [] e g) N T B C := h
theorem set_concat {g : List Cell} {a b : Cell} : (g ++ [a]).set g.length b = g ++ [b] := by
  rw [List.set_append_right _ _ (Nat.le_refl _), Nat.sub_self]; rfl
theorem stp_none {k : List (Int × Int)} {w l : Int} (q : valI k w = none) : putI k w l = stp k w l := by unfold stp; rw [q]
theorem stp_less {k : List (Int × Int)} {w l e : Int} (q : valI k w = some e) (h : l < e) : putI k w l = stp k w l := by unfold stp; rw [q]; exact (if_pos h).symm
theorem stp_not {k : List (Int × Int)} {w l e : Int} (q : valI k w = some e) (h : ¬ l < e) : k = stp k w l := by unfold stp; rw [q]; exact (if_neg h).symm
theorem din_none {g : List Cell} {n : Nat} {k : List (Int × Int)} {w : Int} (h : g[n]? = some (.dct k)) (q : valI k w = none) : dinD true (.int w) (.g n) g = some (.bl true) := by
  unfold dinD dctOf
  simp only [h, q]
  rfl
theorem din_some {g : List Cell} {n : Nat} {k : List (Int × Int)} {w e : Int} (h : g[n]? = some (.dct k)) (q : valI k w = some e) : dinD true (.int w) (.g n) g = some (.bl false) := by
  unfold dinD dctOf
  simp only [h, q]
  rfl
theorem dget_some {g : List Cell} {n : Nat} {k : List (Int × Int)} {w e : Int} (h : g[n]? = some (.dct k)) (q : valI k w = some e) : dgetD (.g n) (.int w) g = some (.int e) := by
  unfold dgetD dctOf
  simp only [h, q]
  rfl
local macro_rules | `(tactic| walk_at "ex") => `(tactic| with_reducible refine Exists.intro _ (And.intro (din_none (by assumption) (by assumption)) ?_))
local macro_rules | `(tactic| walk_at "ex") => `(tactic| with_reducible refine Exists.intro _ (And.intro (din_some (by assumption) (by assumption)) ?_))
local macro_rules | `(tactic| walk_at "ex") => `(tactic| with_reducible refine Exists.intro _ (And.intro (dget_some (by assumption) (by assumption)) ?_))
def Srv (l s : Int) (k : List (Int × Int)) (ce : Int × Int) (b : Int) : Prop := ∃ p ∈ k, p.1 = ce.1 + caI l (if b = 1 then ce.2 else ce.2 + s) (2 * s) ∧ p.2 ≤ ce.2 + b * s
theorem srv_stp {l s : Int} {k : List (Int × Int)} {ce : Int × Int} {b w e : Int} (hk : (k.map (·.1)).Nodup) (h : Srv l s k ce b) : Srv l s (stp k w e) ce b := by
  obtain ⟨⟨c, x⟩, hp, h1, h2⟩ := h
  obtain ⟨y, hy, hle⟩ := stp_keep (w := w) (l := e) hk hp
  exact ⟨(c, y), hy, h1, Int.le_trans hle h2⟩
theorem srv_new {l s : Int} {k : List (Int × Int)} {ce : Int × Int} {b : Int} : Srv l s (stp k (ce.1 + caI l (if b = 1 then ce.2 else ce.2 + s) (2 * s)) (ce.2 + b * s)) ce b := by
  obtain ⟨e, h1, h2⟩ := stp_has (f := k) (w := ce.1 + caI l (if b = 1 then ce.2 else ce.2 + s) (2 * s)) (l := ce.2 + b * s)
  exact ⟨_, h1, rfl, h2⟩
theorem Tab.bit {ls : List Int} {i : Nat} {f k : List (Int × Int)} (hT : Tab ls i f) (hK : Tab ls (i + 1) k) {ce : Int × Int} (hm : ce ∈ f) {b : Int} (hb : b = 0 ∨ b = 1) :
    Tab ls (i + 1) (stp k (ce.1 + caI (ls.getD i 0) (if b = 1 then ce.2 else ce.2 + 2 ^ i) (2 * 2 ^ i)) (ce.2 + b * 2 ^ i)) := by
  obtain ⟨h0, h1, h2⟩ := hT.is ce hm
  have hs := pw_pos i
  refine ⟨stp_keys hK.keys, fun p hp => ?_⟩
  rcases stp_mem p hp with z | z
  · exact hK.is p z
  · subst z
    rw [Int.pow_succ]
    rcases hb with rfl | rfl
    · rw [if_neg (by decide), Int.zero_mul, Int.add_zero, cnI_low h0 h1, h2]
      exact ⟨h0, by show ce.2 < 2 ^ i * 2; omega, rfl⟩
    · rw [if_pos rfl, Int.one_mul, cnI_high h0 h1, h2]
      exact ⟨by show 0 ≤ ce.2 + 2 ^ i; omega, by show ce.2 + 2 ^ i < 2 ^ i * 2; omega, rfl⟩
theorem Ful.next {ls : List Int} {i : Nat} {f k : List (Int × Int)} (hF : Ful ls i f) (h : ∀ ce ∈ f, Srv (ls.getD i 0) (2 ^ i) k ce 0 ∧ Srv (ls.getD i 0) (2 ^ i) k ce 1) : Ful ls (i + 1) k := by
  intro e h0 h1
  have hs := pw_pos i
  rw [Int.pow_succ] at h1
  by_cases z : e < 2 ^ i
  · obtain ⟨ce, hm, c1, c2⟩ := hF e h0 z
    obtain ⟨p, hp, q1, q2⟩ := (h ce hm).1
    rw [if_neg (by decide)] at q1
    refine ⟨p, hp, ?_, by omega⟩
    rw [cnI_low h0 z, q1]
    have := caI_anti (l := ls.getD i 0) (d := 2 * 2 ^ i) (by omega) (show ce.2 + 2 ^ i ≤ e + 2 ^ i by omega)
    omega
  · obtain ⟨ce, hm, c1, c2⟩ := hF (e - 2 ^ i) (by omega) (by omega)
    obtain ⟨p, hp, q1, q2⟩ := (h ce hm).2
    rw [if_pos rfl] at q1
    refine ⟨p, hp, ?_, by omega⟩
    have := cnI_high (ls := ls) (i := i) (e := e - 2 ^ i) (by omega) (by omega)
    rw [show e - 2 ^ i + 2 ^ i = e by omega] at this
    rw [this, q1]
    have := caI_anti (l := ls.getD i 0) (d := 2 * 2 ^ i) (by omega) (show ce.2 ≤ e - 2 ^ i by omega)
    omega
theorem one_bit_wp {g : List Cell} {ls : List Int} {i : Nat} {f : List (Int × Int)} (hl : ∀ j, 0 ≤ ls.getD j 0) (hi : i ≤ 60) (hT : Tab ls i f) (hF : Ful ls i f) :
    WR (p_one_bit_more [.dct f, .int (ls.getD i 0), .int (i : Nat)] g) fun d g' => ∃ k, d = .g g.length ∧ g' = g ++ [.dct k] ∧ Tab ls (i + 1) k ∧ Ful ls (i + 1) k := by
  have w1 := pow_pos' i
  have w2 := pow_le (a := i) (b := 60) hi
  have w3 : (2 : Int) ^ 60 = 1152921504606846976 := by decide
  have hlen := hT.len hl
  refine wp_fn rfl ?_
  walk_at "wp"
  refine wp_forL (fun j e g' => (∃ a b c d x y, e = [.v (.dct f), .v (.int (ls.getD i 0)), .v (.int (i : Nat)), .v (.g g.length), .v (.int (2 ^ i)), a, b, c, d, x, y]) ∧ ∃ k, g' = g ++ [.dct k] ∧ Tab ls (i + 1) k ∧ ∀ m ce, m < j → f[m]? = some ce → Srv (ls.getD i 0) (2 ^ i) k ce 0 ∧ Srv (ls.getD i 0) (2 ^ i) k ce 1) ?_ ?_ ?_
  · exact ⟨⟨_, _, _, _, _, _, rfl⟩, [], rfl, ⟨by simp, fun p hp => by cases hp⟩, fun m ce hm => absurd hm (Nat.not_lt_zero _)⟩
  · rintro j d e g1 hd ⟨⟨a, b, c, d1, x, y, rfl⟩, k, rfl, hK, hS⟩
    obtain ⟨ce, hce, rfl⟩ : ∃ ce, f[j]? = some ce ∧ d = .tup [.int ce.1, .int ce.2] := by
      unfold itmL at hd
      rw [List.getElem?_map] at hd
      obtain ⟨ce, h1, h2⟩ := Option.map_eq_some_iff.mp hd
      exact ⟨ce, h1, h2.symm⟩
    have hm := List.mem_of_getElem? hce
    obtain ⟨h0, h1, h2⟩ := hT.is ce hm
    have hcb := cnI_bd hl ce.2 i
    refine ⟨_, rfl, ?_⟩
    show WS (forS _ _ _ [.v (.dct f), .v (.int (ls.getD i 0)), .v (.int (i : Nat)), .v (.g g.length), .v (.int (2 ^ i)), .v (.int ce.1), .v (.int ce.2), c, d1, x, y] _) _ _ _ _
    have hg : ∀ k : List (Int × Int), (g ++ [Cell.dct k])[g.length]? = some (.dct k) := fun k => List.getElem?_concat_length ..
    walk_at "wp"
    have w4 : (0 : Int) < 2 * 2 ^ i := by omega
    have hg1 := hg k
    have hlen1 := hK.len hl
    refine for_step rfl ?_
    show WS (seqS _ _ [.v (.dct f), .v (.int (ls.getD i 0)), .v (.int (i : Nat)), .v (.g g.length), .v (.int (2 ^ i)), .v (.int ce.1), .v (.int ce.2), .v (.int 0), d1, x, y] _) _ _ _ _
    have hK1 := hT.bit hK hm (.inl rfl)
    have hB := srv_new (l := ls.getD i 0) (s := 2 ^ i) (k := k) (ce := ce) (b := 0)
    rw [if_neg (by decide)] at hK1 hB
    have hS1 : ∀ m ce', m < j → f[m]? = some ce' → Srv (ls.getD i 0) (2 ^ i) (stp k (ce.1 + caI (ls.getD i 0) (ce.2 + 2 ^ i) (2 * 2 ^ i)) (ce.2 + 0 * 2 ^ i)) ce' 0 ∧ Srv (ls.getD i 0) (2 ^ i) (stp k (ce.1 + caI (ls.getD i 0) (ce.2 + 2 ^ i) (2 * 2 ^ i)) (ce.2 + 0 * 2 ^ i)) ce' 1 := fun m ce' hm' hf => ⟨srv_stp hK.keys (hS m ce' hm' hf).1, srv_stp hK.keys (hS m ce' hm' hf).2⟩
    cases q : valI k (ce.1 + caI (ls.getD i 0) (ce.2 + 2 ^ i) (2 * 2 ^ i)) with
    | none =>
      walk_at "wp"
      refine ⟨_, _, _, _, rfl, rfl, rfl, hg1, by omega, ?_⟩
      rw [set_concat, stp_none q]
      generalize stp k (ce.1 + caI (ls.getD i 0) (ce.2 + 2 ^ i) (2 * 2 ^ i)) (ce.2 + 0 * 2 ^ i) = k1 at hK1 hB hS1 ⊢
      have hg2 := hg k1
      have hlen2 := hK1.len hl
      refine for_step rfl ?_
      show WS (seqS _ _ [.v (.dct f), .v (.int (ls.getD i 0)), .v (.int (i : Nat)), .v (.g g.length), .v (.int (2 ^ i)), .v (.int ce.1), .v (.int ce.2), .v (.int 1), _, _, _] _) _ _ _ _
      have hK2 := hT.bit hK1 hm (.inr rfl)
      have hn := srv_new (l := ls.getD i 0) (s := 2 ^ i) (k := k1) (ce := ce) (b := 1)
      rw [if_pos rfl] at hK2 hn
      have hS2 : ∀ m ce', m < j + 1 → f[m]? = some ce' → Srv (ls.getD i 0) (2 ^ i) (stp k1 (ce.1 + caI (ls.getD i 0) ce.2 (2 * 2 ^ i)) (ce.2 + 1 * 2 ^ i)) ce' 0 ∧ Srv (ls.getD i 0) (2 ^ i) (stp k1 (ce.1 + caI (ls.getD i 0) ce.2 (2 * 2 ^ i)) (ce.2 + 1 * 2 ^ i)) ce' 1 := by
        intro m ce' hm' hf
        by_cases z : m = j
        · subst z
          rw [hce] at hf
          cases hf
          exact ⟨srv_stp hK1.keys hB, hn⟩
        · obtain ⟨z1, z2⟩ := hS1 m ce' (by omega) hf
          exact ⟨srv_stp hK1.keys z1, srv_stp hK1.keys z2⟩
      cases q2 : valI k1 (ce.1 + caI (ls.getD i 0) ce.2 (2 * 2 ^ i)) with
      | none =>
        walk_at "wp"
        refine ⟨_, _, _, _, rfl, rfl, rfl, hg2, by omega, ?_⟩
        rw [set_concat, stp_none q2]
        refine for_nil ?_
        exact ⟨⟨_, _, _, _, _, _, rfl⟩, _, rfl, hK2, fun m ce' hm' hf => hS2 m ce' hm' hf⟩
      | some e2 =>
        by_cases z2 : ce.2 + 1 * 2 ^ i < e2
        · walk_at "wp"
          refine ⟨_, _, _, _, rfl, rfl, rfl, hg2, by omega, ?_⟩
          rw [set_concat, stp_less q2 z2]
          refine for_nil ?_
          exact ⟨⟨_, _, _, _, _, _, rfl⟩, _, rfl, hK2, fun m ce' hm' hf => hS2 m ce' hm' hf⟩
        · walk_at "wp"
          rw [stp_not q2 z2]
          refine for_nil ?_
          exact ⟨⟨_, _, _, _, _, _, rfl⟩, _, rfl, hK2, fun m ce' hm' hf => hS2 m ce' hm' hf⟩
    | some e0 =>
      by_cases z : ce.2 + 0 * 2 ^ i < e0
      · walk_at "wp"
        refine ⟨_, _, _, _, rfl, rfl, rfl, hg1, by omega, ?_⟩
        rw [set_concat, stp_less q z]
        generalize stp k (ce.1 + caI (ls.getD i 0) (ce.2 + 2 ^ i) (2 * 2 ^ i)) (ce.2 + 0 * 2 ^ i) = k1 at hK1 hB hS1 ⊢
        have hg2 := hg k1
        have hlen2 := hK1.len hl
        refine for_step rfl ?_
        show WS (seqS _ _ [.v (.dct f), .v (.int (ls.getD i 0)), .v (.int (i : Nat)), .v (.g g.length), .v (.int (2 ^ i)), .v (.int ce.1), .v (.int ce.2), .v (.int 1), _, _, _] _) _ _ _ _
        have hK2 := hT.bit hK1 hm (.inr rfl)
        have hn := srv_new (l := ls.getD i 0) (s := 2 ^ i) (k := k1) (ce := ce) (b := 1)
        rw [if_pos rfl] at hK2 hn
        have hS2 : ∀ m ce', m < j + 1 → f[m]? = some ce' → Srv (ls.getD i 0) (2 ^ i) (stp k1 (ce.1 + caI (ls.getD i 0) ce.2 (2 * 2 ^ i)) (ce.2 + 1 * 2 ^ i)) ce' 0 ∧ Srv (ls.getD i 0) (2 ^ i) (stp k1 (ce.1 + caI (ls.getD i 0) ce.2 (2 * 2 ^ i)) (ce.2 + 1 * 2 ^ i)) ce' 1 := by
          intro m ce' hm' hf
          by_cases z : m = j
          · subst z
            rw [hce] at hf
            cases hf
            exact ⟨srv_stp hK1.keys hB, hn⟩
          · obtain ⟨z1, z2⟩ := hS1 m ce' (by omega) hf
            exact ⟨srv_stp hK1.keys z1, srv_stp hK1.keys z2⟩
        cases q2 : valI k1 (ce.1 + caI (ls.getD i 0) ce.2 (2 * 2 ^ i)) with
        | none =>
          walk_at "wp"
          refine ⟨_, _, _, _, rfl, rfl, rfl, hg2, by omega, ?_⟩
          rw [set_concat, stp_none q2]
          refine for_nil ?_
          exact ⟨⟨_, _, _, _, _, _, rfl⟩, _, rfl, hK2, fun m ce' hm' hf => hS2 m ce' hm' hf⟩
        | some e2 =>
          by_cases z2 : ce.2 + 1 * 2 ^ i < e2
          · walk_at "wp"
            refine ⟨_, _, _, _, rfl, rfl, rfl, hg2, by omega, ?_⟩
            rw [set_concat, stp_less q2 z2]
            refine for_nil ?_
            exact ⟨⟨_, _, _, _, _, _, rfl⟩, _, rfl, hK2, fun m ce' hm' hf => hS2 m ce' hm' hf⟩
          · walk_at "wp"
            rw [stp_not q2 z2]
            refine for_nil ?_
            exact ⟨⟨_, _, _, _, _, _, rfl⟩, _, rfl, hK2, fun m ce' hm' hf => hS2 m ce' hm' hf⟩
      · walk_at "wp"
        rw [stp_not q z]
        generalize stp k (ce.1 + caI (ls.getD i 0) (ce.2 + 2 ^ i) (2 * 2 ^ i)) (ce.2 + 0 * 2 ^ i) = k1 at hK1 hB hS1 ⊢
        have hg2 := hg k1
        have hlen2 := hK1.len hl
        refine for_step rfl ?_
        show WS (seqS _ _ [.v (.dct f), .v (.int (ls.getD i 0)), .v (.int (i : Nat)), .v (.g g.length), .v (.int (2 ^ i)), .v (.int ce.1), .v (.int ce.2), .v (.int 1), _, _, _] _) _ _ _ _
        have hK2 := hT.bit hK1 hm (.inr rfl)
        have hn := srv_new (l := ls.getD i 0) (s := 2 ^ i) (k := k1) (ce := ce) (b := 1)
        rw [if_pos rfl] at hK2 hn
        have hS2 : ∀ m ce', m < j + 1 → f[m]? = some ce' → Srv (ls.getD i 0) (2 ^ i) (stp k1 (ce.1 + caI (ls.getD i 0) ce.2 (2 * 2 ^ i)) (ce.2 + 1 * 2 ^ i)) ce' 0 ∧ Srv (ls.getD i 0) (2 ^ i) (stp k1 (ce.1 + caI (ls.getD i 0) ce.2 (2 * 2 ^ i)) (ce.2 + 1 * 2 ^ i)) ce' 1 := by
          intro m ce' hm' hf
          by_cases z : m = j
          · subst z
            rw [hce] at hf
            cases hf
            exact ⟨srv_stp hK1.keys hB, hn⟩
          · obtain ⟨z1, z2⟩ := hS1 m ce' (by omega) hf
            exact ⟨srv_stp hK1.keys z1, srv_stp hK1.keys z2⟩
        cases q2 : valI k1 (ce.1 + caI (ls.getD i 0) ce.2 (2 * 2 ^ i)) with
        | none =>
          walk_at "wp"
          refine ⟨_, _, _, _, rfl, rfl, rfl, hg2, by omega, ?_⟩
          rw [set_concat, stp_none q2]
          refine for_nil ?_
          exact ⟨⟨_, _, _, _, _, _, rfl⟩, _, rfl, hK2, fun m ce' hm' hf => hS2 m ce' hm' hf⟩
        | some e2 =>
          by_cases z2 : ce.2 + 1 * 2 ^ i < e2
          · walk_at "wp"
            refine ⟨_, _, _, _, rfl, rfl, rfl, hg2, by omega, ?_⟩
            rw [set_concat, stp_less q2 z2]
            refine for_nil ?_
            exact ⟨⟨_, _, _, _, _, _, rfl⟩, _, rfl, hK2, fun m ce' hm' hf => hS2 m ce' hm' hf⟩
          · walk_at "wp"
            rw [stp_not q2 z2]
            refine for_nil ?_
            exact ⟨⟨_, _, _, _, _, _, rfl⟩, _, rfl, hK2, fun m ce' hm' hf => hS2 m ce' hm' hf⟩
  · rintro e g1 ⟨⟨a, b, c, d1, x, y, rfl⟩, k, rfl, hK, hS⟩
    walk_at "wp"
    refine ⟨k, rfl, rfl, hK, hF.next fun ce hm => ?_⟩
    obtain ⟨m, hm', hq⟩ := List.mem_iff_getElem.mp hm
    have e1 : f[m]? = some ce := by rw [List.getElem?_eq_getElem hm', hq]
    exact hS m ce (by unfold itmL; rw [List.length_map]; exact hm') e1
local macro_rules | `(tactic| walk_at "call") => `(tactic| with_reducible refine WR.mono (one_bit_wp (by assumption) (by walk_at "om") (by assumption) (by assumption)) ?_)
/-- all points at a tick behind the last life, by the tick's low digits -/
def totI (ls : List Int) (la : Int) (e : Int) : Int := cnI ls ls.length e + caI la e (2 ^ ls.length)
theorem ltP_of {a y : Int × Int} : (PySem.W.DatumOrd.lt a y = true → a.1 ≤ y.1) ∧ (¬ PySem.W.DatumOrd.lt a y = true → y.1 ≤ a.1) := by
  have e : PySem.W.DatumOrd.lt a y = if a.1 = y.1 then decide (a.2 < y.2) else decide (a.1 < y.1) := rfl
  rw [e]
  by_cases q : a.1 = y.1
  · exact ⟨fun _ => by omega, fun _ => by omega⟩
  · rw [if_neg q]
    exact ⟨fun z => by have := of_decide_eq_true z; omega, fun z => by
      have : ¬ a.1 < y.1 := fun w => z (decide_eq_true w)
      omega⟩
theorem maxP_is : ∀ (ps : List (Int × Int)) (x : Int × Int), maxP x ps ∈ x :: ps ∧ ∀ y ∈ x :: ps, y.1 ≤ (maxP x ps).1
  | [], x => ⟨List.mem_cons_self .., fun y hy => by rw [List.mem_singleton.mp hy]; exact Int.le_refl _⟩
  | p :: ps, x => by
    have hs : maxP x (p :: ps) = maxP (if PySem.W.DatumOrd.lt x p = true then p else x) ps := rfl
    rw [hs]
    obtain ⟨l1, l2⟩ := ltP_of (a := x) (y := p)
    by_cases q : PySem.W.DatumOrd.lt x p = true
    · rw [if_pos q]
      obtain ⟨i1, i2⟩ := maxP_is ps p
      refine ⟨List.mem_cons_of_mem _ i1, fun y hy => ?_⟩
      rcases List.mem_cons.mp hy with rfl | hy
      · exact Int.le_trans (l1 q) (i2 p (List.mem_cons_self ..))
      · exact i2 y hy
    · rw [if_neg q]
      obtain ⟨i1, i2⟩ := maxP_is ps x
      refine ⟨?_, fun y hy => ?_⟩
      · rcases List.mem_cons.mp i1 with z | z
        · rw [z]; exact List.mem_cons_self ..
        · exact List.mem_cons_of_mem _ (List.mem_cons_of_mem _ z)
      · rcases List.mem_cons.mp hy with rfl | hy
        · exact i2 y (List.mem_cons_self ..)
        · rcases List.mem_cons.mp hy with rfl | hy
          · exact Int.le_trans (l2 q) (i2 x (List.mem_cons_self ..))
          · exact i2 y (List.mem_cons_of_mem _ hy)
theorem most_wp {g : List Cell} {c : Nat} {L : List Lf} {ls : List Int} {la : Int} (hc : c < 2) (hL : L = ls.map some ++ [some la]) (hl : ∀ j, 0 ≤ ls.getD j 0) (hla : 0 ≤ la) (hlen : ls.length ≤ 60) :
    WR (p_most [ruD c L] g) fun d g' => g' = g ∧ ∃ m e : Int, d = .tup [.int m, .int (e + (la / 2 ^ ls.length + 1) * 2 ^ ls.length)] ∧ 0 ≤ e ∧ e < 2 ^ ls.length ∧ m = totI ls la e ∧ ∀ e', 0 ≤ e' → e' < 2 ^ ls.length → totI ls la e' ≤ m := by
  have w1 := pow_pos' ls.length
  have w2 := pow_le (a := ls.length) (b := 60) hlen
  have w3 : (2 : Int) ^ 60 = 1152921504606846976 := by decide
  have h3 : L.length = ls.length + 1 := by rw [hL, List.length_append, List.length_map]; rfl
  have h1 : at0 L (L.length - 1) = some la := by
    rw [h3, hL, Nat.add_sub_cancel]
    unfold at0
    rw [List.getD_eq_getElem?_getD, List.getElem?_append_right (by rw [List.length_map]; exact Nat.le_refl _), List.length_map, Nat.sub_self]
    rfl
  have h2 : L.take (L.length - 1) = ls.map some := by
    rw [h3, hL, Nat.add_sub_cancel]
    have := List.take_left (l₁ := ls.map some) (l₂ := [some la])
    rwa [List.length_map] at this
  clear hL
  refine wp_fn rfl ?_
  walk_at "wp"
  · rename_i z
    rw [h1] at z; cases z
  rw [h1, h2]
  refine wp_forL (fun j e g' => g' = g ∧ ∃ a b x y z f, e = [.v (ruD c L), .v (.dct f), a, .v (.int la), b, x, y, z, .v (.lst ((ls.map some).map lfD))] ∧ Tab ls j f ∧ Ful ls j f) ?_ ?_ ?_
  · refine ⟨rfl, _, _, _, _, _, [(0, 0)], rfl, ⟨by simp, fun p hp => ?_⟩, fun e e0 e1 => ⟨(0, 0), List.mem_singleton.mpr rfl, Int.le_refl _, e0⟩⟩
    rw [List.mem_singleton.mp hp]
    exact ⟨Int.le_refl _, by decide, rfl⟩
  · rintro j d e g1 hd ⟨rfl, a, b, x, y, z, f, rfl, hT, hF⟩
    obtain ⟨y0, hy, rfl⟩ := enumL_get hd
    rw [List.map_map, List.getElem?_map] at hy
    obtain ⟨v, hv, rfl⟩ := Option.map_eq_some_iff.mp hy
    have hj := (List.getElem?_eq_some_iff.mp hv).1
    have hv2 : ls.getD j 0 = v := by rw [List.getD_eq_getElem?_getD, hv]; rfl
    refine ⟨_, rfl, ?_⟩
    show WS (asgS _ _ [.v (ruD c L), .v (.dct f), a, .v (.int la), .v (.int (j : Nat)), .v (.int v), y, z, .v (.lst ((ls.map some).map lfD))] _) _ _ _ _
    rw [← hv2]
    walk_at "wp"
    rintro d g2 ⟨k, rfl, rfl, hT', hF'⟩
    exact ⟨k, rfl, rfl, rfl, _, _, _, _, _, k, rfl, hT', hF'⟩
  · rintro e g1 ⟨rfl, a, b, x, y, z, f, rfl, hT, hF⟩
    rw [enumL_length, List.length_map, List.length_map] at hT hF
    have hln := hT.len hl
    walk_at "wp"
    refine ⟨by unfold itmL; rw [List.length_map]; omega, ?_⟩
    rw [List.length_map]
    refine lcMap (f := fun p : Int × Int => .tup [.int p.1, .int p.2]) (xs := f) (fun p => prI (p.1 + caI la p.2 (2 ^ ls.length), p.2)) ?_ ?_
    · intro m p hp
      refine ⟨_, rfl, ?_⟩
      show WR (tupM _ [_, _, .v (.int (2 ^ ls.length)), .v (.int la), _, _, .v (.int p.1), .v (.int p.2), _] _) _
      walk_at "wp"
      rfl
    · obtain ⟨p0, hp0, _⟩ := hF 0 (Int.le_refl _) w1
      rw [show (f.map fun p : Int × Int => prI (p.1 + caI la p.2 (2 ^ ls.length), p.2)) = (f.map fun p : Int × Int => (p.1 + caI la p.2 (2 ^ ls.length), p.2)).map prI by rw [List.map_map]; rfl]
      have hm0 : (p0.1 + caI la p0.2 (2 ^ ls.length), p0.2) ∈ f.map fun p : Int × Int => (p.1 + caI la p.2 (2 ^ ls.length), p.2) := List.mem_map.mpr ⟨p0, hp0, rfl⟩
      have hall : ∀ r ∈ f.map fun p : Int × Int => (p.1 + caI la p.2 (2 ^ ls.length), p.2), ∃ p ∈ f, r = (p.1 + caI la p.2 (2 ^ ls.length), p.2) := fun r hr => by
        obtain ⟨p, hp, e⟩ := List.mem_map.mp hr
        exact ⟨p, hp, e.symm⟩
      have hof : ∀ p ∈ f, (p.1 + caI la p.2 (2 ^ ls.length), p.2) ∈ f.map fun p : Int × Int => (p.1 + caI la p.2 (2 ^ ls.length), p.2) := fun p hp => List.mem_map.mpr ⟨p, hp, rfl⟩
      generalize (f.map fun p : Int × Int => (p.1 + caI la p.2 (2 ^ ls.length), p.2)) = rs at hm0 hall hof ⊢
      cases rs with
      | nil => cases hm0
      | cons x ps =>
        obtain ⟨i1, i2⟩ := maxP_is ps x
        have em : ∀ g : List Cell, maxTF [.lst ((x :: ps).map prI)] g = some (.tup [.int (maxP x ps).1, .int (maxP x ps).2]) := fun g => by
          unfold maxTF
          simp only [pairsOf_map]
          rfl
        obtain ⟨p, hp, ep⟩ := hall _ i1
        obtain ⟨h0, h4, h5⟩ := hT.is p hp
        have htop : ∀ e', 0 ≤ e' → e' < 2 ^ ls.length → totI ls la e' ≤ p.1 + caI la p.2 (2 ^ ls.length) := fun e' e0 e1 => by
          obtain ⟨r, hr, r1, r2⟩ := hF e' e0 e1
          have k1 := i2 _ (hof r hr)
          rw [ep] at k1
          have k1 : r.1 + caI la r.2 (2 ^ ls.length) ≤ p.1 + caI la p.2 (2 ^ ls.length) := k1
          have k2 := caI_anti (l := la) w1 r2
          unfold totI
          omega
        walk_at "wp"
        refine ⟨_, em _, ?_⟩
        rw [ep]
        walk_at "wp"
        exact ⟨by unfold totI; rw [← h5], htop⟩

def p_average : List D → List Cell → R D := fnM 1 7 (seqS (asgS (unM (fldD 2) (varM 0)) (tgStar 2 (tgs1 (tgN 6) (tgs1 (tgN 1) (tgs0)))))
    (seqS (ifS (boolM (opM isND (seeM 1) (conM .non)))
    (retS (conM .non))
    (skipS))
    (seqS (parS 2 3 (varM 1) (callM 1 p_size_of (consM (bltM lenF (consM (seeM 6) (nilM))) (nilM))))
    (seqS (forS (enumIt (consM (varM 6) (nilM))) (tgT 2 (tgs1 (tgN 4) (tgs1 (tgN 5) (tgs0))))
    (augS (onI0 fun i j => .int (i + j)) 2 (opM mulD (seeM 5) (callM 1 p_size_of (consM (opM subD (opM subD (bltM lenF (consM (seeM 6) (nilM))) (conM (.int 1))) (seeM 4)) (nilM))))))
    (seqS (whL (andB (boolM (opM gtD (seeM 3) (conM (.int 1)))) (boolM (opM eqA (opM modD (seeM 2) (conM (.int 2))) (conM (.int 0)))))
    (seqS (augS (onI (fun _ j => decide (0 < j ∧ j < 1073741824)) fun i j => .int (i / j)) 2 (conM (.int 2)))
    (augS (onI (fun _ j => decide (0 < j ∧ j < 1073741824)) fun i j => .int (i / j)) 3 (conM (.int 2)))) 100000)
    (retS (tupM (consM (varM 2) (consM (varM 3) (nilM))))))))))
/-- what average returns: a fraction in lowest terms -/
def avOut (L : List Lf) (d : D) : Prop := if at0 L (L.length - 1) = none then d = .non else
    ∃ (p : Int) (t : Nat), d = .tup [.int p, .int (2 ^ t)] ∧ t ≤ L.length - 1 ∧ p * 2 ^ (L.length - 1) = avS L (L.length - 1) * 2 ^ t ∧ (t = 0 ∨ p % 2 = 1)
theorem average_wp {g : List Cell} {c : Nat} {L : List Lf} (hc : c < 2) (h : Lives L) (t : Tight L) (h2 : L.length ≤ 61) : WR (p_average [ruD c L] g) fun d g' => g' = g ∧ avOut L d := by
  have h1 := h.ne
  refine wp_fn rfl ?_
  walk_at "wp"
  · rename_i a; unfold avOut; rw [if_pos a]
  rename_i a
  obtain ⟨last, hlast⟩ : ∃ n, at0 L (L.length - 1) = some n := by
    cases q : at0 L (L.length - 1) with
    | none => exact absurd q a
    | some n => exact ⟨n, rfl⟩
  rw [List.length_take, Nat.min_eq_left (by omega), hlast]
  refine wp_forL (fun i e g' => g' = g ∧ ∃ a b, e = [.v (ruD c L), .v (.int last), .v (.int (last + sumTo (fun i => num (at0 L i) * 2 ^ (L.length - 1 - 1 - i)) i)), .v (.int (2 ^ (L.length - 1))), a, b, .v (.lst ((L.take (L.length - 1)).map lfD))]) ⟨rfl, _, _, by rw [sumTo, Int.add_zero]; rfl⟩ ?_ ?_
  · rintro i d e _ hd ⟨rfl, a, b, rfl⟩
    obtain ⟨y, hy, rfl⟩ := enumL_get hd
    rw [List.getElem?_map] at hy
    have hi : i < L.length - 1 := by
      apply Nat.lt_of_not_le
      intro q
      rw [List.getElem?_eq_none (by rw [List.length_take]; omega)] at hy
      cases hy
    rw [List.getElem?_take_of_lt hi, at0_eq (by omega)] at hy
    cases hy
    obtain ⟨n, hn⟩ := h.tight_fin t (i := i) (by omega)
    refine ⟨_, rfl, ?_⟩
    rw [hn]
    show WS (augS _ _ _ [.v (ruD c L), .v (.int last), .v (.int (last + sumTo (fun i => num (at0 L i) * 2 ^ (L.length - 1 - 1 - i)) i)), .v (.int (2 ^ (L.length - 1))), .v (.int (i : Nat)), .v (.int n), .v (.lst ((L.take (L.length - 1)).map lfD))] _) _ _ _ _
    walk_at "wp"
    refine ⟨.inr ⟨Int.lt_of_lt_of_le (by decide) (pow_nn _), pow_lt64 (by walk_at "om")⟩, ?_⟩
    walk_at "wp"
    rw [sumTo, hn, List.length_take, Nat.min_eq_left (by omega), Int.add_assoc, show (((L.length - 1 : Nat) : Int) - 1 - i).toNat = L.length - 1 - 1 - i by omega]
    exact ⟨_, _, rfl⟩
  · rintro e g1 ⟨e1, a, b, rfl⟩
    subst e1
    rw [enumL_length, List.length_map, List.length_take, Nat.min_eq_left (by omega)]
    have hS : last + sumTo (fun i => num (at0 L i) * 2 ^ (L.length - 1 - 1 - i)) (L.length - 1) = avS L (L.length - 1) := by unfold avS; rw [hlast]; rfl
    rw [hS]
    walk_at "wp"
    refine wp_whN (fun k e g' => g' = g1 ∧ ∃ p : Int, e = [.v (ruD c L), .v (.int last), .v (.int p), .v (.int (2 ^ k)), a, b, .v (.lst ((L.take (L.length - 1)).map lfD))] ∧ k ≤ L.length - 1 ∧ p * 2 ^ (L.length - 1) = avS L (L.length - 1) * 2 ^ k) (k := L.length - 1) (by omega) ⟨rfl, _, rfl, Nat.le_refl _, rfl⟩ ?_
    rintro k e g2 ⟨e1, p, rfl, k1, k2⟩
    subst e1
    have fin : ∀ _ : k = 0 ∨ p % 2 = 1, avOut L (.tup [.int p, .int (2 ^ k)]) := fun hz => by
      unfold avOut
      rw [if_neg ‹_›]
      exact ⟨p, k, rfl, k1, k2, hz⟩
    walk_at "wp"
    · rename_i a1 a2
      cases k with
      | zero => rw [Int.pow_zero] at a1; omega
      | succ k =>
        refine ⟨k, Nat.lt_succ_self k, rfl, p / 2, ?_, by omega, ?_⟩
        · rw [Int.pow_succ]
          show [_, _, _, Ev.Slot.v (D.int (2 ^ k * 2 / 2)), _, _, _] = _
          rw [Int.mul_ediv_cancel _ (by decide)]
        · rw [Int.pow_succ] at k2
          have : p = 2 * (p / 2) := by omega
          generalize p / 2 = q at this
          subst this
          grind
    · rename_i a1 a2
      exact fin (.inr (by omega))
    · rename_i a1
      cases k with
      | zero => exact fin (.inl rfl)
      | succ k =>
        have := pow_pos' k
        rw [Int.pow_succ] at a1
        omega

/-! CF: the greatest count, over all ticks -/
theorem cls_step {d r x : Int} (hd : 0 < d) (r0 : 0 ≤ r) (r1 : r < d) : (x - r) / d = (x - 1 - r) / d + one (decide (x % d = r)) := by
  have e : x % d = r ↔ (x - r) % d = 0 := by
    constructor
    · intro h
      rw [Int.sub_emod, h, Int.emod_eq_of_lt r0 r1, Int.sub_self, Int.zero_emod]
    · intro h
      obtain ⟨k, hk⟩ := Int.dvd_of_emod_eq_zero h
      rw [show x = r + d * k by omega, Int.add_mul_emod_self_left, Int.emod_eq_of_lt r0 r1]
  have h := div_step (s := d) (x := x - r) hd
  rw [show x - r - 1 = x - 1 - r by omega] at h
  rw [h, decide_eq_decide.mpr e]
theorem cls_cnt {d r lo t : Int} (hd : 0 < d) (r0 : 0 ≤ r) (r1 : r < d) (h : lo - 1 ≤ t) : cnt (fun p => decide (p % d = r)) lo t = (t - r) / d - (lo - 1 - r) / d :=
  cnt_form (F := fun x => (x - r) / d) (fun x _ => cls_step hd r0 r1) h
theorem ca_div {l y d : Int} (hd : 0 < d) (hl : 0 ≤ l) (y0 : 0 ≤ y) (y1 : y < d) : -((y - l) / d) = caI l y d := by
  rw [caI_eq hd hl y0 y1]
  have e := Int.emod_add_mul_ediv l d
  have s0 := Int.emod_nonneg l (show d ≠ 0 by omega)
  have s1 := Int.emod_lt_of_pos l hd
  generalize l / d = q at e ⊢
  generalize l % d = s at e s0 s1 ⊢
  rw [show y - l = (y - s) + d * (-q) by rw [Int.mul_neg]; omega, Int.add_mul_ediv_left _ _ (by omega)]
  by_cases w : y < s
  · rw [if_pos w, show (y - s) / d = -1 by
      rw [show y - s = (y - s + d) + d * (-1) by omega, Int.add_mul_ediv_left _ _ (by omega), Int.ediv_eq_zero_of_lt (by omega) (by omega)]; rfl]
    omega
  · rw [if_neg w, Int.ediv_eq_zero_of_lt (by omega) (by omega)]
    omega
theorem cnt_sub {P : Int → Bool} {lo lo' hi : Int} (h : lo' ≤ lo) : cnt P lo hi ≤ cnt P lo' hi := by
  by_cases q : lo - 1 ≤ hi
  · rw [cnt_split (P := P) (lo := lo') (hi := hi) (m := lo - 1) (by omega) q, show lo - 1 + 1 = lo by omega]
    have := cnt_nn (P := P) (lo := lo') (hi := lo - 1)
    omega
  · rw [cnt_empty (by omega)]
    exact cnt_nn
/-- points of a class that are young enough -/
theorem cls_ca {d r l t : Int} (hd : 0 < d) (r0 : 0 ≤ r) (r1 : r < d) (hl : 0 ≤ l) : cnt (fun p => decide (p % d = r)) (t - l + 1) t = caI l ((t - r) % d) d := by
  rw [cls_cnt hd r0 r1 (by omega), ← ca_div hd hl (Int.emod_nonneg _ (by omega)) (Int.emod_lt_of_pos _ hd)]
  have e := Int.emod_add_mul_ediv (t - r) d
  generalize (t - r) / d = q at e ⊢
  generalize (t - r) % d = y at e ⊢
  rw [show t - l + 1 - 1 - r = (y - l) + d * q by omega, Int.add_mul_ediv_left _ _ (by omega)]
  omega
theorem yo_mod {i : Nat} {t : Int} : yoI i t = (t - 2 ^ i) % (2 * 2 ^ i) := by
  have hs := pw_pos i
  have e := Int.emod_add_mul_ediv t (2 ^ i)
  have s0 := Int.emod_nonneg t (show (2 : Int) ^ i ≠ 0 by omega)
  have s1 := Int.emod_lt_of_pos t hs
  unfold yoI
  generalize t % 2 ^ i = s at e s0 s1 ⊢
  have e2 := Int.emod_add_mul_ediv (t / 2 ^ i) 2
  generalize t / 2 ^ i = q at e e2 ⊢
  generalize (2 : Int) ^ i = w at e hs s1 ⊢
  rcases (by omega : q % 2 = 1 ∨ q % 2 = 0) with z | z
  · rw [if_pos z, show t - w = s + (2 * w) * (q / 2) by
      rw [show q = 1 + 2 * (q / 2) by omega] at e
      rw [← e, Int.mul_add, Int.mul_one, Int.mul_comm 2 w, Int.mul_assoc]; omega, Int.add_mul_emod_self_left, Int.emod_eq_of_lt (by omega) (by omega)]
  · rw [if_neg (by omega), show t - w = (s + w) + (2 * w) * (q / 2 - 1) by
      rw [show q = 2 * (q / 2) by omega] at e
      rw [← e, Int.mul_sub, Int.mul_one, Int.mul_comm 2 w, Int.mul_assoc]; omega, Int.add_mul_emod_self_left, Int.emod_eq_of_lt (by omega) (by omega)]
theorem cnI_sum (ls : List Int) (e : Int) : ∀ n, cnI ls n e = sumTo (fun i => caI (ls.getD i 0) (yoI i e) (2 * 2 ^ i)) n
  | 0 => rfl
  | n + 1 => by
    show cnI ls n e + _ = sumTo _ n + _
    rw [cnI_sum ls e n]
theorem at0_last {ls : List Int} {la : Int} : at0 (ls.map some ++ [some la]) ls.length = some la := by
  unfold at0
  rw [List.getD_eq_getElem?_getD, List.getElem?_append_right (by rw [List.length_map]; exact Nat.le_refl _), List.length_map, Nat.sub_self]
  rfl
theorem at0_fin {ls : List Int} {la : Int} {i : Nat} (h : i < ls.length) : at0 (ls.map some ++ [some la]) i = some (ls.getD i 0) := by
  unfold at0
  rw [List.getD_eq_getElem?_getD, List.getElem?_append_left (by rwa [List.length_map]), List.getElem?_map, List.getD_eq_getElem?_getD, List.getElem?_eq_getElem h]
  rfl
section
variable {ls : List Int} {la t : Int}
theorem tot_term (hl : ∀ j, 0 ≤ ls.getD j 0) (hla : 0 ≤ la) {i : Nat} (hi : i < ls.length + 1) :
    cnt (clsP (ls.length + 1) i) (max 0 (oldI (ls.map some ++ [some la]) t i)) (min t t) ≤ (if i = ls.length then caI la (t % 2 ^ ls.length) (2 ^ ls.length) else caI (ls.getD i 0) (yoI i t) (2 * 2 ^ i)) ∧
    ((if i = ls.length then la else ls.getD i 0) ≤ t + 1 → cnt (clsP (ls.length + 1) i) (max 0 (oldI (ls.map some ++ [some la]) t i)) (min t t) = (if i = ls.length then caI la (t % 2 ^ ls.length) (2 ^ ls.length) else caI (ls.getD i 0) (yoI i t) (2 * 2 ^ i))) := by
  have hs := pw_pos i
  rw [Int.min_self]
  unfold clsP oldI
  by_cases q : i = ls.length
  · subst q
    rw [if_pos rfl, if_pos rfl, at0_last]
    have h := cls_ca (d := 2 ^ ls.length) (r := 0) (l := la) (t := t) hs (Int.le_refl _) hs hla
    rw [Int.sub_zero] at h
    have hm : (fun p => if ls.length + 1 = ls.length + 1 then mulP (2 ^ ls.length) p else rnkP ls.length p) = fun p => decide (p % 2 ^ ls.length = 0) := by
      funext p
      rw [if_pos rfl]
      rfl
    rw [hm, ← h]
    constructor
    · exact cnt_sub (by show t - la + 1 ≤ max 0 (max 0 (t - la + 1)); omega)
    · intro z
      congr 1
      show max 0 (max 0 (t - la + 1)) = _
      omega
  · rw [if_neg q, if_neg q, at0_fin (by omega)]
    have h := cls_ca (d := 2 * 2 ^ i) (r := 2 ^ i) (l := ls.getD i 0) (t := t) (by omega) (by omega) (by omega) (hl i)
    rw [← yo_mod] at h
    have hm : (fun p => if i + 1 = ls.length + 1 then mulP (2 ^ i) p else rnkP i p) = fun p => decide (p % (2 * 2 ^ i) = 2 ^ i) := by
      funext p
      rw [if_neg (by omega)]
      rfl
    rw [hm, ← h]
    constructor
    · exact cnt_sub (by show t - ls.getD i 0 + 1 ≤ max 0 (max 0 (t - ls.getD i 0 + 1)); omega)
    · intro z
      congr 1
      show max 0 (max 0 (t - ls.getD i 0 + 1)) = _
      omega
theorem tot_sum : totI ls la (t % 2 ^ ls.length) = sumTo (fun i => if i = ls.length then caI la (t % 2 ^ ls.length) (2 ^ ls.length) else caI (ls.getD i 0) (yoI i t) (2 * 2 ^ i)) (ls.length + 1) := by
  unfold totI
  rw [cnI_mod (Nat.le_refl _), cnI_sum]
  show _ = sumTo _ ls.length + _
  congr 1
  · exact sumTo_congr fun i hi => by rw [if_neg (by omega)]
  · show _ = if ls.length = ls.length then _ else _
    rw [if_pos rfl]
theorem tot_le (hl : ∀ j, 0 ≤ ls.getD j 0) (hla : 0 ≤ la) : cntK (ls.map some ++ [some la]) t 0 t ≤ totI ls la (t % 2 ^ ls.length) := by
  have hn : (ls.map some ++ [some la]).length = ls.length + 1 := by rw [List.length_append, List.length_map]; rfl
  rw [cntK_sum (by omega) (Int.le_refl _), hn, tot_sum]
  exact sumTo_le fun i hi => (tot_term hl hla hi).1
theorem tot_eq (hl : ∀ j, 0 ≤ ls.getD j 0) (hla : 0 ≤ la) (h : ∀ i, i < ls.length → ls.getD i 0 ≤ t + 1) (hla2 : la ≤ t + 1) : cntK (ls.map some ++ [some la]) t 0 t = totI ls la (t % 2 ^ ls.length) := by
  have hn : (ls.map some ++ [some la]).length = ls.length + 1 := by rw [List.length_append, List.length_map]; rfl
  rw [cntK_sum (by omega) (Int.le_refl _), hn, tot_sum]
  exact sumTo_congr fun i hi => (tot_term hl hla hi).2 (by
    split
    · exact hla2
    · exact h i (by omega))
end
/-- the lives of a rule without a life for ever -/
theorem Lives.fin_of {L : List Lf} {la : Int} (h : Lives L) (e : at0 L (L.length - 1) = some la) : ∃ ls : List Int, L = ls.map some ++ [some la] ∧ ls.length + 1 = L.length ∧ (∀ j, 0 ≤ ls.getD j 0) ∧ 0 ≤ la ∧ ∀ i, i < ls.length → ls.getD i 0 ≤ la := by
  have h1 := h.ne
  have hall : ∀ i, i < L.length → ∃ n, at0 L i = some n ∧ 0 ≤ n ∧ n ≤ la := fun i hi => by
    have m := h.mono_at (i := i) (j := L.length - 1) (by omega) (by omega)
    rw [e] at m
    cases q : at0 L i with
    | none => rw [q] at m; exact m.elim
    | some n => rw [q] at m; exact ⟨n, rfl, h.nn n (q ▸ at0_mem hi), m⟩
  have hlen : ((L.take (L.length - 1)).map num).length = L.length - 1 := by rw [List.length_map, List.length_take]; omega
  have hget : ∀ i, i < L.length - 1 → at0 L i = some (((L.take (L.length - 1)).map num).getD i 0) := fun i hi => by
    obtain ⟨n, hn, _⟩ := hall i (by omega)
    rw [List.getD_eq_getElem?_getD, List.getElem?_map, List.getElem?_take_of_lt hi, at0_eq (by omega), hn]
    rfl
  refine ⟨(L.take (L.length - 1)).map num, ?_, by omega, fun j => ?_, ?_, fun i hi => ?_⟩
  · refine ext_at ?_ fun i hi => ?_
    · rw [List.length_append, List.length_map, hlen]
      show _ = L.length - 1 + 1
      omega
    · by_cases q : i < L.length - 1
      · rw [at0_fin (by omega), hget i q]
      · rw [show i = ((L.take (L.length - 1)).map num).length by omega, at0_last, hlen, e]
  · by_cases q : j < L.length - 1
    · obtain ⟨n, hn, n0, _⟩ := hall j (by omega)
      rw [hget j q] at hn
      cases hn
      exact n0
    · rw [List.getD_eq_getElem?_getD, List.getElem?_eq_none (by omega)]
      exact Int.le_refl _
  · obtain ⟨n, hn, n0, _⟩ := hall (L.length - 1) (by omega)
    rw [e] at hn
    cases hn
    exact n0
  · obtain ⟨n, hn, _, n1⟩ := hall i (by omega)
    rw [hget i (by omega)] at hn
    cases hn
    exact n1
/-- the greatest count m, at the tick t -/
structure MostOf (L : List Lf) (m t : Int) : Prop where
  t0 : 0 ≤ t
  at_ : cntK L t 0 t = m
  top : ∀ t', 0 ≤ t' → cntK L t' 0 t' ≤ m
theorem most_some {g : List Cell} {c : Nat} {L : List Lf} {la : Int} (hc : c < 2) (h : Lives L) (h2 : L.length ≤ 61) (e : at0 L (L.length - 1) = some la) :
    WR (p_most [ruD c L] g) fun d g' => g' = g ∧ ∃ m t : Int, d = .tup [.int m, .int t] ∧ MostOf L m t ∧ t ≤ la + 2305843009213693952 := by
  obtain ⟨ls, hL, hlen, hl, hla, hb⟩ := h.fin_of e
  refine (most_wp hc hL hl hla (by omega)).mono fun d g' ⟨e1, m, x, e2, x0, x1, em, top⟩ => ⟨e1, m, _, e2, ?_, ?_⟩
  · have hs := pw_pos ls.length
    have hd := Int.emod_add_mul_ediv la (2 ^ ls.length)
    have s1 := Int.emod_lt_of_pos la hs
    have s0 := Int.emod_nonneg la (show (2 : Int) ^ ls.length ≠ 0 by omega)
    have hmul : (la / 2 ^ ls.length + 1) * 2 ^ ls.length = 2 ^ ls.length * (la / 2 ^ ls.length) + 2 ^ ls.length := by rw [Int.add_mul, Int.one_mul, Int.mul_comm]
    have hx : (x + (la / 2 ^ ls.length + 1) * 2 ^ ls.length) % 2 ^ ls.length = x := by
      rw [Int.add_mul_emod_self_right, Int.emod_eq_of_lt x0 x1]
    have ht : la ≤ x + (la / 2 ^ ls.length + 1) * 2 ^ ls.length := by omega
    refine ⟨by omega, ?_, fun t' h' => ?_⟩
    · rw [hL, tot_eq hl hla (fun i hi => by have := hb i hi; omega) (by omega), hx, em]
    · rw [hL]
      exact Int.le_trans (tot_le hl hla) (top _ (Int.emod_nonneg _ (by omega)) (Int.emod_lt_of_pos _ hs))
  · have hs := pw_pos ls.length
    have w2 := pow_le (a := ls.length) (b := 60) (by omega)
    have w3 : (2 : Int) ^ 60 = 1152921504606846976 := by decide
    have hd := Int.emod_add_mul_ediv la (2 ^ ls.length)
    have s0 := Int.emod_nonneg la (show (2 : Int) ^ ls.length ≠ 0 by omega)
    have hmul : (la / 2 ^ ls.length + 1) * 2 ^ ls.length = 2 ^ ls.length * (la / 2 ^ ls.length) + 2 ^ ls.length := by rw [Int.add_mul, Int.one_mul, Int.mul_comm]
    omega
theorem most_none {g : List Cell} {c : Nat} {L : List Lf} (hc : c < 2) (h1 : 0 < L.length) (h2 : L.length ≤ 61) (e : at0 L (L.length - 1) = none) : WR (p_most [ruD c L] g) fun d g' => g' = g ∧ d = .non := by
  refine wp_fn rfl ?_
  walk_at "wp"
theorem MostOf.short {L : List Lf} {m t : Int} (h : 0 < L.length) (k : MostOf (LW.short L) m t) : MostOf L m t := ⟨k.t0, by rw [← cntK_short h]; exact k.at_, fun t' h' => by rw [← cntK_short h]; exact k.top t' h'⟩
theorem MostOf.uniq {L : List Lf} {m m' t t' : Int} (h : MostOf L m t) (k : MostOf L m' t') : m = m' := by
  have h1 := h.top t' k.t0
  have h2 := k.top t h.t0
  rw [k.at_] at h1
  rw [h.at_] at h2
  omega
theorem most_is {g : List Cell} {c : Nat} {L : List Lf} (hc : c < 2) (h : Lives L) (h2 : (short L).length ≤ 61) :
    WR (p_most [ruD c (short L)] g) fun d g' => g' = g ∧ ((at0 L (L.length - 1) = none ∧ d = .non) ∨ ∃ la m t : Int, at0 L (L.length - 1) = some la ∧ d = .tup [.int m, .int t] ∧ MostOf L m t ∧ t ≤ la + 2305843009213693952) := by
  have h1 := h.ne
  have hl := short_last (L := L) h1
  cases e : at0 L (L.length - 1) with
  | none =>
    rw [e] at hl
    exact (most_none hc (short_pos h1) h2 hl).mono fun d g' ⟨a, b⟩ => ⟨a, .inl ⟨rfl, b⟩⟩
  | some la =>
    rw [e] at hl
    exact (most_some hc h.short h2 hl).mono fun d g' ⟨a, m, t, b, k, k2⟩ => ⟨a, .inr ⟨la, m, t, rfl, b, k.short h1, k2⟩⟩
theorem average_is {g : List Cell} {c : Nat} {L : List Lf} (hc : c < 2) (h : Lives L) (h2 : (LW.short L).length ≤ 61) :
    WR (p_average [ruD c (LW.short L)] g) fun d g' => g' = g ∧ ((at0 L (L.length - 1) = none ∧ d = .non) ∨ ∃ (la p : Int) (t : Nat), at0 L (L.length - 1) = some la ∧ d = .tup [.int p, .int (2 ^ t)] ∧ t ≤ 60 ∧ p * 2 ^ (L.length - 1) = avS L (L.length - 1) * 2 ^ t ∧ (t = 0 ∨ p % 2 = 1)) := by
  have h1 := h.ne
  have hl := short_last (L := L) h1
  have hs := short_pos h1
  have hle := short_le L
  refine (average_wp hc h.short (short_tight L) h2).mono fun d g' ⟨a, b⟩ => ⟨a, ?_⟩
  unfold avOut at b
  rw [hl] at b
  cases e : at0 L (L.length - 1) with
  | none =>
    rw [e, if_pos rfl] at b
    exact .inl ⟨rfl, b⟩
  | some la =>
    rw [e, if_neg (fun z => nomatch z)] at b
    obtain ⟨p, t, b1, b2, b3, b4⟩ := b
    refine .inr ⟨la, p, t, rfl, b1, by omega, ?_, b4⟩
    have e1 := avS_short h1
    rw [e1, show L.length - 1 = (L.length - (LW.short L).length) + ((LW.short L).length - 1) by omega, Int.pow_add, Int.mul_left_comm, b3, Int.mul_assoc]

/-! CE: equality of data without truth values and texts -/
mutual
def plD : D → Nat → Bool
  | .non, _ => true
  | .int _, _ => true
  | .tup ds, n => decide (0 < n) && plDs ds (n - 1)
  | .lst ds, n => decide (0 < n) && plDs ds (n - 1)
  | _, _ => false
def plDs : List D → Nat → Bool
  | [], _ => true
  | d :: ds, n => plD d n && plDs ds n
end
mutual
theorem okd_pl : ∀ {d : D} {n : Nat}, plD d n = true → okd d n = true
  | .non, _, _ => rfl
  | .int _, _, _ => rfl
  | .tup ds, n, h => by
    simp only [plD, okd, Bool.and_eq_true] at h ⊢
    exact ⟨h.1, okds_pl h.2⟩
  | .lst ds, n, h => by
    simp only [plD, okd, Bool.and_eq_true] at h ⊢
    exact ⟨h.1, okds_pl h.2⟩
  | .bl _, _, h => by cases h
  | .str _, _, h => by cases h
  | .ob _ _, _, h => by cases h
  | .g _, _, h => by cases h
  | .sc _, _, h => by cases h
  | .cl _, _, h => by cases h
  | .dct _, _, h => by cases h
  | .exc _ _, _, h => by cases h
  | .da _, _, h => by cases h
theorem okds_pl : ∀ {ds : List D} {n : Nat}, plDs ds n = true → okds ds n = true
  | [], _, _ => rfl
  | d :: ds, n, h => by
    simp only [plDs, okds, Bool.and_eq_true] at h ⊢
    exact ⟨okd_pl h.1, okds_pl h.2⟩
end
mutual
theorem eqv_pl : ∀ {x y : D} {n m : Nat}, plD x n = true → plD y m = true → (PyData.eqv (toPd x) (toPd y) = true ↔ x = y)
  | .non, .non, _, _, _, _ => ⟨fun _ => rfl, fun _ => rfl⟩
  | .non, .int _, _, _, _, _ => ⟨fun h => (by cases h), fun h => (by cases h)⟩
  | .non, .tup _, _, _, _, _ => ⟨fun h => (by cases h), fun h => (by cases h)⟩
  | .non, .lst _, _, _, _, _ => ⟨fun h => (by cases h), fun h => (by cases h)⟩
  | .int _, .non, _, _, _, _ => ⟨fun h => (by cases h), fun h => (by cases h)⟩
  | .int i, .int j, _, _, _, _ => ⟨fun h => by
      have h : (i == j) = true := h
      rw [beq_iff_eq.mp h], fun h => by
      cases h
      show (i == i) = true
      exact beq_self_eq_true i⟩
  | .int _, .tup _, _, _, _, _ => ⟨fun h => (by cases h), fun h => (by cases h)⟩
  | .int _, .lst _, _, _, _, _ => ⟨fun h => (by cases h), fun h => (by cases h)⟩
  | .tup _, .non, _, _, _, _ => ⟨fun h => (by cases h), fun h => (by cases h)⟩
  | .tup _, .int _, _, _, _, _ => ⟨fun h => (by cases h), fun h => (by cases h)⟩
  | .tup xs, .tup ys, n, m, h, k => by
    simp only [plD, Bool.and_eq_true] at h k
    have := eqvs_pl (xs := xs) (ys := ys) h.2 k.2
    show PyData.eqvAll (toPds xs) (toPds ys) = true ↔ _
    rw [this]
    exact ⟨fun h => by rw [h], fun h => by cases h; rfl⟩
  | .tup _, .lst _, _, _, _, _ => ⟨fun h => (by cases h), fun h => (by cases h)⟩
  | .lst _, .non, _, _, _, _ => ⟨fun h => (by cases h), fun h => (by cases h)⟩
  | .lst _, .int _, _, _, _, _ => ⟨fun h => (by cases h), fun h => (by cases h)⟩
  | .lst _, .tup _, _, _, _, _ => ⟨fun h => (by cases h), fun h => (by cases h)⟩
  | .lst xs, .lst ys, n, m, h, k => by
    simp only [plD, Bool.and_eq_true] at h k
    have := eqvs_pl (xs := xs) (ys := ys) h.2 k.2
    show PyData.eqvAll (toPds xs) (toPds ys) = true ↔ _
    rw [this]
    exact ⟨fun h => by rw [h], fun h => by cases h; rfl⟩
  | .bl _, _, _, _, h, _ => by cases h
  | .str _, _, _, _, h, _ => by cases h
  | .ob _ _, _, _, _, h, _ => by cases h
  | .g _, _, _, _, h, _ => by cases h
  | .sc _, _, _, _, h, _ => by cases h
  | .cl _, _, _, _, h, _ => by cases h
  | .dct _, _, _, _, h, _ => by cases h
  | .exc _ _, _, _, _, h, _ => by cases h
  | .da _, _, _, _, h, _ => by cases h
  | _, .bl _, _, _, _, h => by cases h
  | _, .str _, _, _, _, h => by cases h
  | _, .ob _ _, _, _, _, h => by cases h
  | _, .g _, _, _, _, h => by cases h
  | _, .sc _, _, _, _, h => by cases h
  | _, .cl _, _, _, _, h => by cases h
  | _, .dct _, _, _, _, h => by cases h
  | _, .exc _ _, _, _, _, h => by cases h
  | _, .da _, _, _, _, h => by cases h
theorem eqvs_pl : ∀ {xs ys : List D} {n m : Nat}, plDs xs n = true → plDs ys m = true → (PyData.eqvAll (toPds xs) (toPds ys) = true ↔ xs = ys)
  | [], [], _, _, _, _ => ⟨fun _ => rfl, fun _ => rfl⟩
  | [], _ :: _, _, _, _, _ => ⟨fun h => (by cases h), fun h => (by cases h)⟩
  | _ :: _, [], _, _, _, _ => ⟨fun h => (by cases h), fun h => (by cases h)⟩
  | x :: xs, y :: ys, n, m, h, k => by
    simp only [plDs, Bool.and_eq_true] at h k
    show (PyData.eqv (toPd x) (toPd y) && PyData.eqvAll (toPds xs) (toPds ys)) = true ↔ _
    rw [Bool.and_eq_true, eqv_pl h.1 k.1, eqvs_pl h.2 k.2]
    exact ⟨fun ⟨a, b⟩ => by rw [a, b], fun e => by cases e; exact ⟨rfl, rfl⟩⟩
end
theorem eqA_pl {x y : D} {g : List Cell} (h : plD x 64 = true) (k : plD y 64 = true) : ∃ b, eqA x y g = some (.bl b) ∧ (b = true ↔ x = y) := by
  have hP : eqP x y g = some (.bl (eqd x y)) := by
    unfold eqP
    rw [if_pos ⟨okd_pl h, okd_pl k⟩]
  refine ⟨eqd x y, ?_, eqv_pl h k⟩
  unfold eqA orF
  cases x <;> first | exact hP | cases h
theorem eq2_pl {x y : D} {PB : Bool → List Cell → Prop} {g : List Cell} (h : plD x 64 = true) (k : plD y 64 = true) (b : Br (x = y) PB g) : Eq2 x y PB g := by
  obtain ⟨c, e, i⟩ := eqA_pl (g := g) h k
  refine .inr ⟨c, e, ?_⟩
  cases c with
  | true => exact b.1 (i.mp rfl)
  | false => exact b.2 fun z => nomatch (i.mpr z)
theorem plDs_map {α : Type} {f : α → D} {n : Nat} (h : ∀ a, plD (f a) n = true) : ∀ xs : List α, plDs (xs.map f) n = true
  | [] => rfl
  | x :: xs => by simp only [List.map_cons, plDs, h x, plDs_map h xs, Bool.and_self]
theorem pl_ints {α : Type} {f : α → Int} (xs : List α) : plD (.lst (xs.map fun i => .int (f i))) 64 = true := by
  show (true && plDs _ 63) = true
  rw [plDs_map fun _ => rfl]; rfl
theorem pl_tints {α : Type} {f : α → Int} (xs : List α) : plD (.tup (xs.map fun i => .int (f i))) 64 = true := by
  show (true && plDs _ 63) = true
  rw [plDs_map fun _ => rfl]; rfl
theorem pl_lf (l : Lf) (n : Nat) : plD (lfD l) n = true := by cases l <;> rfl
/-- two lists of ints that are the same -/
theorem eq2_same {x y : D} {PB : Bool → List Cell → Prop} {g : List Cell} (h : plD x 64 = true) (e : x = y) (b : PB true g) : Eq2 x y PB g := eq2_pl h (e ▸ h) ⟨fun _ => b, fun z => absurd e z⟩

def q_count : List D → List Cell → R D := fnM 2 9 (seqS (parS 2 3 (conM (.int 0)) (opM subD (bltM lenF (consM (seeM 0) (nilM))) (conM (.int 1))))
    (seqS (forS (enumIt (consM (varM 0) (nilM))) (tgT 2 (tgs1 (tgN 4) (tgs1 (tgN 5) (tgs0))))
    (seqS (parS 6 7 (callM 1 q_two (consM (varM 4) (nilM))) (ifV (boolM (opM isND (seeM 5) (conM .non))) (conM (.int 0)) (bltM maxF (consM (conM (.int 0)) (consM (opM addD (opM subD (seeM 1) (seeM 5)) (conM (.int 1))) (nilM))))))
    (ifS (boolM (opM leD (seeM 7) (seeM 1)))
    (ifS (boolM (opM eqA (seeM 4) (seeM 3)))
    (asgS (opM subD (opM addD (seeM 2) (opM fdivD (seeM 1) (seeM 6))) (opM fdivD (opM subD (seeM 7) (conM (.int 1))) (seeM 6))) (tgN 2))
    (seqS (asgS (opM fdivD (opM addD (bltM maxF (consM (conM (.int 0)) (consM (opM subD (seeM 7) (conM (.int 1))) (nilM)))) (seeM 6)) (opM mulD (conM (.int 2)) (seeM 6))) (tgN 8))
    (asgS (opM subD (opM addD (seeM 2) (opM fdivD (opM addD (seeM 1) (seeM 6)) (opM mulD (conM (.int 2)) (seeM 6)))) (seeM 8)) (tgN 2))))
    (skipS))))
    (retS (varM 2))))
def q_greatest : List D → List Cell → R D := fnM 1 11 (seqS (asgS (dOneM 0 0) (tgN 1))
    (seqS (forS (enumIt (consM (slM (seeM 0) (noP) (atP (unM negD (conM (.int 1))))) (nilM))) (tgT 2 (tgs1 (tgN 3) (tgs1 (tgN 4) (tgs0))))
    (boxS (seqS (asgS (tupM (consM (callM 1 q_two (consM (varM 3) (nilM))) (consM (dNewM) (nilM)))) (tgT 2 (tgs1 (tgN 2) (tgs1 (tgN 6) (tgs0)))))
    (seqS (lckS 1 (forS (keysIt 1) (tgN 5)
    (forS (seqIt (tupM (consM (conM (.int 0)) (consM (conM (.int 1)) (nilM))))) (tgN 7)
    (seqS (asgS (opM addD (opM dgetD (varM 1) (varM 5)) (opM mulD (seeM 2) (opM subD (conM (.int 1)) (seeM 7)))) (tgN 8))
    (seqS (asgS (opM addD (opM dgetD (varM 1) (varM 5)) (opM mulD (seeM 2) (seeM 7))) (tgN 9))
    (seqS (asgS (opM addD (seeM 5) (opM fdivD (bltM maxF (consM (conM (.int 0)) (consM (opM addD (opM subD (opM subD (seeM 4) (conM (.int 1))) (seeM 8)) (opM mulD (conM (.int 2)) (seeM 2))) (nilM)))) (opM mulD (conM (.int 2)) (seeM 2)))) (tgN 10))
    (dputS (bltM minF (consM (seeM 9) (consM (dgetO (varM 6) (varM 10) (varM 9)) (nilM)))) (varM 6) (varM 10))))))))
    (asgS (varM 6) (tgN 1))))))
    (seqS (asgS (callM 1 q_two (consM (opM subD (bltM lenF (consM (seeM 0) (nilM))) (conM (.int 1))) (nilM))) (tgN 2))
    (retS (bltM maxF (consM (valM (lckM 1 (lcM (keysIt 1) (tgN 5) (yesB) (opM addD (seeM 5) (opM fdivD (bltM maxF (consM (conM (.int 0)) (consM (opM addD (opM subD (opM subD (opM ixD (seeM 0) (unM negD (conM (.int 1)))) (conM (.int 1))) (opM dgetD (varM 1) (varM 5))) (seeM 2)) (nilM)))) (seeM 2))) [5]))) (nilM)))))))
def q_shortv : List D → List Cell → R D := fnM 1 1 (seqS (asgS (bltM tupF (consM (seeM 0) (nilM))) (tgN 0))
    (seqS (whL (andB (boolM (opM gtD (bltM lenF (consM (seeM 0) (nilM))) (conM (.int 1)))) (boolM (opM eqA (opM ixD (seeM 0) (unM negD (conM (.int 1)))) (opM ixD (seeM 0) (unM negD (conM (.int 2)))))))
    (asgS (slM (seeM 0) (noP) (atP (unM negD (conM (.int 1))))) (tgN 0)) 100000)
    (retS (varM 0))))
def q_rule_right : List D → List Cell → R D := fnM 3 11 (seqS (asgS (callM 1 p_most (consM (cmM 0 2 p_Rule_of (conM (.cl 0)) (consM (varM 1) (nilM))) (nilM))) (tgN 3))
    (seqS (ifS (boolM (opM isND (opM ixD (seeM 1) (unM negD (conM (.int 1)))) (conM .non)))
    (retS (opM isND (seeM 3) (conM .non)))
    (skipS))
    (seqS (ifS (orB (notB (boolM (unM (isiD "tuple") (varM 3)))) (boolM (opM neA (bltM lenF (consM (seeM 3) (nilM))) (conM (.int 2)))))
    (retS (conM (.bl false)))
    (skipS))
    (seqS (asgS (varM 3) (tgT 2 (tgs1 (tgN 7) (tgs1 (tgN 8) (tgs0)))))
    (seqS (ifS (orB (boolM (opM neA (bltM rprF (consM (seeM 3) (nilM))) (bltM rprF (consM (tupM (consM (bltM intF (consM (seeM 7) (nilM))) (consM (bltM intF (consM (seeM 8) (nilM))) (nilM)))) (nilM))))) (orB (boolM (opM ltD (seeM 8) (conM (.int 0)))) (boolM (opM neA (callM 2 q_count (consM (varM 1) (consM (varM 8) (nilM)))) (seeM 7)))))
    (retS (conM (.bl false)))
    (skipS))
    (seqS (asgS (opM ixD (seeM 1) (unM negD (conM (.int 1)))) (tgN 4))
    (seqS (ownS (ifF (boolM (varM 2)) (lcM (rngIt (consM (callM 1 q_two (consM (opM subD (bltM lenF (consM (seeM 1) (nilM))) (conM (.int 1))) (nilM))) (nilM))) (tgN 9) (yesB) (opM addD (seeM 4) (seeM 9)) [9]) (fitM (nilM))) 5)
    (seqS (forS (rngIt (consM (conM (.int 20)) (nilM))) (tgN 6)
    (appendS 5 (opM addD (seeM 4) (callM 2 q_takev (consM (varM 0) (consM (conM (.int 1000000000000000000)) (nilM)))))))
    (seqS (frzS 5 (ifS (notB (boolM (bltM allF (consM (valM (lcM (seqIt (varM 5)) (tgN 10) (yesB) (opM leD (callM 2 q_count (consM (varM 1) (consM (varM 10) (nilM)))) (seeM 7)) [10])) (nilM)))))
    (retS (conM (.bl false)))
    (skipS)))
    (seqS (ifS (notB (boolM (varM 2)))
    (retS (opM eqA (seeM 7) (callM 1 q_greatest (consM (callM 1 q_shortv (consM (varM 1) (nilM))) (nilM)))))
    (skipS))
    (retS (opM (inD false) (seeM 7) (valM (lcM (seqIt (varM 5)) (tgN 10) (yesB) (callM 2 q_count (consM (varM 1) (consM (varM 10) (nilM)))) [10]))))))))))))))
def q_low_lives : List D → List Cell → R D := fnM 1 4 (seqS (parFS 2 3 (fitM (nilM)) (conM (.int 0)))
    (seqS (forS (rngIt (consM (opM addD (conM (.int 9)) (callM 2 q_takev (consM (varM 0) (consM (conM (.int 32)) (nilM))))) (nilM))) (tgN 1)
    (seqS (asgS (opM addD (seeM 3) (callM 2 q_of (consM (varM 0) (consM (valM (fitM (consM (conM (.int 0)) (consM (conM (.int 1)) (consM (conM (.int 2)) (consM (conM (.int 5)) (consM (conM (.int 9)) (consM (conM (.int 30)) (nilM))))))))) (nilM))))) (tgN 3))
    (appendS 2 (varM 3))))
    (retS (bltM tupF (consM (seeM 2) (nilM))))))
def q_right : List D → List Cell → R D := fnM 1 2 (seqS (forS (rngIt (consM (conM (.int 6)) (nilM))) (tgN 1)
    (ifS (notB (boolM (callM 3 q_rule_right (consM (varM 0) (consM (callM 2 q_ended (consM (varM 0) (consM (callM 3 q_lives (consM (varM 0) (consM (opM addD (conM (.int 1)) (callM 2 q_takev (consM (varM 0) (consM (conM (.int 5)) (nilM))))) (consM (conM (.int 12)) (nilM))))) (nilM)))) (consM (conM (.bl true)) (nilM)))))))
    (retS (conM (.bl false)))
    (skipS)))
    (seqS (ifS (orB (notB (boolM (callM 3 q_rule_right (consM (varM 0) (consM (callM 1 q_low_lives (consM (varM 0) (nilM))) (consM (conM (.bl false)) (nilM))))))) (notB (boolM (callM 3 q_rule_right (consM (varM 0) (consM (callM 1 q_low_lives (consM (varM 0) (nilM))) (consM (conM (.bl false)) (nilM))))))))
    (retS (conM (.bl false)))
    (skipS))
    (retS (callM 3 q_rule_right (consM (varM 0) (consM (callM 2 q_ended (consM (varM 0) (consM (callM 3 q_lives (consM (varM 0) (consM (callM 2 q_of (consM (varM 0) (consM (valM (fitM (consM (conM (.int 61)) (consM (conM (.int 30)) (nilM))))) (nilM)))) (consM (conM (.int 100000000000000000)) (nilM))))) (nilM)))) (consM (conM (.bl false)) (nilM))))))))
def q_law : List D → List Cell → R D := fnM 1 4 (seqS (forS (rngIt (consM (bltM maxF (consM (conM (.int 1)) (consM (bltM minF (consM (conM (.int 3)) (consM (bltM lenF (consM (seeM 0) (nilM))) (nilM)))) (nilM)))) (nilM))) (tgN 1)
    (seqS (asgS (callM 2 q_potv (consM (varM 0) (consM (varM 1) (nilM)))) (tgN 2))
    (ifS (notB (boolM (bltM allF (consM (valM (lcM (rngIt (consM (conM (.int 1)) (nilM))) (tgN 3) (yesB) (callM 1 q_right (consM (varM 2) (nilM))) [3])) (nilM)))))
    (retS (conM (.bl false)))
    (skipS))))
    (retS (conM (.bl true))))
theorem ca_max {l y d : Int} (hd : 0 < d) : max 0 (l - 1 - y + d) / d = caI l y d := by
  unfold caI
  by_cases q : l ≤ y
  · rw [if_pos q]
    refine Int.ediv_eq_zero_of_lt (by omega) (by omega)
  · rw [if_neg q, show max 0 (l - 1 - y + d) = l - 1 - y + d * 1 by omega, Int.add_mul_ediv_left _ _ (by omega)]
theorem putI_same : ∀ {f : List (Int × Int)} {w v : Int}, (f.map (·.1)).Nodup → valI f w = some v → putI f w v = f := fun {f w v} hn h => by
  have hm := valI_mem h
  unfold putI
  rw [if_pos (List.any_eq_true.mpr ⟨(w, v), hm, by simp⟩)]
  refine (List.map_congr_left fun p hp => ?_).trans (List.map_id f)
  by_cases e : p.1 = w
  · rw [if_pos e]
    have : p = (w, v) := by
      obtain ⟨i, hi, e1⟩ := List.getElem_of_mem hp
      obtain ⟨j, hj, e2⟩ := List.getElem_of_mem hm
      have hi' : i < (f.map (·.1)).length := by rw [List.length_map]; exact hi
      have hj' : j < (f.map (·.1)).length := by rw [List.length_map]; exact hj
      have this : (f.map (·.1))[i]'hi' = (f.map (·.1))[j]'hj' := by rw [List.getElem_map, List.getElem_map, e1, e2]; exact e
      have hp := List.pairwise_iff_getElem.mp hn
      rcases Nat.lt_trichotomy i j with z | z | z
      · exact absurd this (hp i j hi' hj' z)
      · subst z
        rw [← e1, e2]
      · exact absurd this.symm (hp j i hj' hi' z)
    rw [this]
    rfl
  · rw [if_neg e]
    rfl
theorem put_min {k : List (Int × Int)} {w l : Int} (hn : (k.map (·.1)).Nodup) : putI k w (min l (match valI k w with | some v => v | none => l)) = stp k w l := by
  cases q : valI k w with
  | none => rw [← stp_none q]; congr 1; show min l l = l; omega
  | some e =>
    by_cases z : l < e
    · rw [← stp_less q z]; congr 1; show min l e = l; omega
    · rw [← stp_not q z, show (match some e with | some v => v | none => l) = e from rfl, show min l e = e by omega]
      exact putI_same hn q
theorem wp_dgetO {mo mk mx : M D} {e : Ev.Env} {g : List Cell} {P : D → List Cell → Prop} (h : WR (mo e g) fun x g1 => ∃ kvs0, dctOf x g1 = some kvs0 ∧ WR (mk e g1) fun y g2 => WR (mx e g2) fun z g3 => ∃ kvs k l, dctOf x g3 = some kvs ∧ y = .int k ∧ z = .int l ∧ P (.int (match valI kvs k with | some v => v | none => l)) g3) : WR (dgetO mo mk mx e g) P := by
  unfold dgetO
  refine WR.bind (h.mono fun x g1 ⟨kvs0, h0, k1⟩ => ?_)
  rw [h0]
  refine WR.bind (k1.mono fun y g2 k2 => WR.bind (k2.mono fun z g3 ⟨kvs, k, l, h1, e1, e2, p⟩ => ?_))
  subst e1 e2
  rw [h1]
  simp only
  cases q : valI kvs k <;> (rw [q] at p; exact p)
theorem wp_keys {i : Nat} {kvs : List (Int × Int)} {e : Ev.Env} {g : List Cell} {PL : List D → List Cell → Prop} (hi : e[i]? = some (.v (.dct kvs))) (h : PL (keyL kvs) g) : WR (keysIt i e g) PL := by
  unfold keysIt
  rw [hi]
  exact h
theorem wp_box {m : MS} {e : Ev.Env} {g : List Cell} {N : Ev.Env → List Cell → Prop} {T : D → List Cell → Prop} {B C : Ev.Env → List Cell → Prop} (h : WS (m e g) (fun e1 g1 => ∃ kvs e2, g1 = g ++ [.dct kvs] ∧ fixE g.length kvs e1 = some e2 ∧ N e2 g) (fun _ _ => False) (fun _ _ => False) (fun _ _ => False)) : WS (boxS m e g) N T B C := by
  unfold boxS
  cases q : m e g with
  | nx e1 g1 =>
    rw [q] at h
    obtain ⟨kvs, e2, rfl, h2, h3⟩ := h
    simp only
    rw [List.getElem?_concat_length]
    simp only
    rw [List.take_left, if_pos ⟨by rw [List.length_append]; rfl, eqG_self g⟩, h2]
    exact h3
  | rt _ _ => rw [q] at h; exact h.elim
  | bk _ _ => rw [q] at h; exact h.elim
  | ct _ _ => rw [q] at h; exact h.elim
  | ex _ _ _ => rw [q] at h; exact h.elim
  | bad => rw [q] at h; exact h.elim
theorem lowDs_lf (n : Nat) : ∀ L : List Lf, lowDs n (L.map lfD) = true
  | [] => rfl
  | x :: L => by
    rw [List.map_cons, lowDs, lowDs_lf n L]
    cases x <;> rfl
theorem dget_key {g : List Cell} {f : List (Int × Int)} {w e : Int} (q : valI f w = some e) : dgetD (.dct f) (.int w) g = some (.int e) := by
  show (valI f w).map D.int = _
  rw [q]
  rfl
local macro_rules | `(tactic| walk_at "ex") => `(tactic| with_reducible refine Exists.intro _ (And.intro (dget_key (by assumption)) ?_))
def Okk (s : Ev.Slot) : Prop := ∀ n kvs, fixS n kvs s = some s
theorem okk_int {i : Int} : Okk (.v (.int i)) := fun _ _ => rfl
theorem okk_no : Okk .no := fun _ _ => rfl
theorem okk_dct {k : List (Int × Int)} : Okk (.v (.dct k)) := fun _ _ => rfl
theorem okk_lv {L : List Lf} : Okk (.v (lvD L)) := fun n _ => by
  rw [fix_d (fun m h => D.noConfusion h), if_pos (show lowD n (lvD L) = true from lowDs_lf n L)]
/-- one digit more -/
theorem digit_wp {g : List Cell} {ls : List Int} {i : Nat} {f k : List (Int × Int)} {lv a8 a9 a10 : Ev.Slot} {ce : Int × Int} {b : Int} {N : Ev.Env → List Cell → Prop} {T : D → List Cell → Prop} {B C : Ev.Env → List Cell → Prop} (hb : b = 0 ∨ b = 1) (hi : i ≤ 60) (hq : valI f ce.1 = some ce.2) (hk : Tab ls (i + 1) k) (hl : ∀ j, 0 ≤ ls.getD j 0)
    (h : ∀ x8 x9 x10, Okk x8 → Okk x9 → Okk x10 → N [lv, .v (.dct f), .v (.int (2 ^ i)), .v (.int (i : Nat)), .v (.int (ls.getD i 0)), .v (.int ce.1), .v (.g g.length), .v (.int b), x8, x9, x10] (g ++ [.dct (stp k (ce.1 + caI (ls.getD i 0) (if b = 1 then ce.2 else ce.2 + 2 ^ i) (2 * 2 ^ i)) (ce.2 + b * 2 ^ i))])) :
    WS ((seqS (asgS (opM addD (opM dgetD (varM 1) (varM 5)) (opM mulD (seeM 2) (opM subD (conM (.int 1)) (seeM 7)))) (tgN 8))
    (seqS (asgS (opM addD (opM dgetD (varM 1) (varM 5)) (opM mulD (seeM 2) (seeM 7))) (tgN 9))
    (seqS (asgS (opM addD (seeM 5) (opM fdivD (bltM maxF (consM (conM (.int 0)) (consM (opM addD (opM subD (opM subD (seeM 4) (conM (.int 1))) (seeM 8)) (opM mulD (conM (.int 2)) (seeM 2))) (nilM)))) (opM mulD (conM (.int 2)) (seeM 2)))) (tgN 10))
    (dputS (bltM minF (consM (seeM 9) (consM (dgetO (varM 6) (varM 10) (varM 9)) (nilM)))) (varM 6) (varM 10))))) [lv, .v (.dct f), .v (.int (2 ^ i)), .v (.int (i : Nat)), .v (.int (ls.getD i 0)), .v (.int ce.1), .v (.g g.length), .v (.int b), a8, a9, a10] (g ++ [.dct k])) N T B C := by
  have w1 := pow_pos' i
  have w2 := pow_le (a := i) (b := 60) hi
  have w3 : (2 : Int) ^ 60 = 1152921504606846976 := by decide
  have hlen := hk.len hl
  have hg : (g ++ [Cell.dct k])[g.length]? = some (.dct k) := List.getElem?_concat_length ..
  have hd : dctOf (.g g.length) (g ++ [Cell.dct k]) = some k := by
    show (match (g ++ [Cell.dct k])[g.length]? with | some (.dct kvs) => some kvs | _ => none) = _
    rw [hg]
  walk_at "wp"
  refine wp_dgetO ?_
  walk_at "wp"
  refine ⟨_, hd, ?_⟩
  walk_at "wp"
  refine ⟨_, _, _, hd, rfl, rfl, ?_⟩
  have hy : ce.2 + 2 ^ i * (1 - b) = if b = 1 then ce.2 else ce.2 + 2 ^ i := by rcases hb with rfl | rfl <;> simp
  rw [hy, ca_max (by omega), Int.mul_comm (2 ^ i) b]
  walk_at "wp"
  refine ⟨_, _, _, _, rfl, rfl, rfl, hg, by omega, ?_⟩
  rw [set_concat, put_min hk.keys]
  exact h _ _ _ okk_int okk_int okk_int
theorem key_val {f : List (Int × Int)} {p : Int × Int} (hn : (f.map (·.1)).Nodup) (hm : p ∈ f) : valI f p.1 = some p.2 := by
  cases q : valI f p.1 with
  | none =>
    have := valV_any (Sum.inl p.1 : Key) (f.map dkv)
    unfold valI at q
    rw [Option.map_eq_none_iff, List.find?_eq_none] at q
    exact absurd (q p hm) (by simp)
  | some v =>
    have h1 := putI_same hn q
    obtain ⟨i, hi, e1⟩ := List.getElem_of_mem hm
    obtain ⟨j, hj, e2⟩ := List.getElem_of_mem (valI_mem q)
    have hi' : i < (f.map (·.1)).length := by rw [List.length_map]; exact hi
    have hj' : j < (f.map (·.1)).length := by rw [List.length_map]; exact hj
    have this : (f.map (·.1))[i]'hi' = (f.map (·.1))[j]'hj' := by rw [List.getElem_map, List.getElem_map, e1, e2]
    have hp := List.pairwise_iff_getElem.mp hn
    rcases Nat.lt_trichotomy i j with z | z | z
    · exact absurd this (hp i j hi' hj' z)
    · subst z
      rw [e1] at e2
      rw [e2]
    · exact absurd this.symm (hp j i hj' hi' z)
theorem fix_cons {n : Nat} {kvs : List (Int × Int)} {s s2 : Ev.Slot} {e e2 : Ev.Env} (h : fixS n kvs s = some s2) (k : fixE n kvs e = some e2) : fixE n kvs (s :: e) = some (s2 :: e2) := by
  unfold fixE
  rw [h, k]
theorem max_ints {ns : List Int} (g : List Cell) (h : 0 < ns.length) : ∃ f, maxF [.lst (ns.map .int)] g = some (.int f) ∧ f ∈ ns ∧ ∀ y ∈ ns, y ≤ f := by
  cases ns with
  | nil => exact absurd h (by simp)
  | cons n ns =>
    obtain ⟨h1, h2⟩ := maxI_ge ns n
    refine ⟨maxI n ns, by unfold maxF; simp only [intsOf_map], ?_, fun y hy => ?_⟩
    · rcases maxI_mem ns n with q | q
      · rw [q]; exact List.mem_cons_self ..
      · exact List.mem_cons_of_mem _ q
    · rcases List.mem_cons.mp hy with q | q
      · rw [q]; exact h1
      · exact h2 y q
theorem ix_giv {L : List Lf} {la : Int} {g : List Cell} (h : ∀ g, ixD (lvD L) (.int (-1)) g = some (.int la)) : ixD (lvD L) (.int (-1)) g = some (.int la) := h g
local macro_rules | `(tactic| walk_at "ex") => `(tactic| with_reducible refine Exists.intro _ (And.intro (ix_giv (by assumption)) ?_))
theorem greatest_wp {g : List Cell} {L : List Lf} {ls : List Int} {la : Int} (hL : L = ls.map some ++ [some la]) (hl : ∀ j, 0 ≤ ls.getD j 0) (hla : 0 ≤ la) (hlen : ls.length ≤ 60) :
    WR (q_greatest [lvD L] g) fun d g' => g' = g ∧ ∃ f M, d = .int M ∧ Tab ls ls.length f ∧ Ful ls ls.length f ∧ (∃ p ∈ f, M = p.1 + caI la p.2 (2 ^ ls.length)) ∧ ∀ p ∈ f, p.1 + caI la p.2 (2 ^ ls.length) ≤ M := by
  have w1 := pow_pos' ls.length
  have w2 := pow_le (a := ls.length) (b := 60) hlen
  have w3 : (2 : Int) ^ 60 = 1152921504606846976 := by decide
  have h3 : L.length = ls.length + 1 := by rw [hL, List.length_append, List.length_map]; rfl
  have h1 : at0 L (L.length - 1) = some la := by
    rw [h3, hL, Nat.add_sub_cancel]
    unfold at0
    rw [List.getD_eq_getElem?_getD, List.getElem?_append_right (by rw [List.length_map]; exact Nat.le_refl _), List.length_map, Nat.sub_self]
    rfl
  have h2 : L.take (L.length - 1) = ls.map some := by
    rw [h3, hL, Nat.add_sub_cancel]
    have := List.take_left (l₁ := ls.map some) (l₂ := [some la])
    rwa [List.length_map] at this
  clear hL
  refine wp_fn rfl ?_
  walk_at "wp"
  rw [cut_init, h2]
  refine wp_forL (fun i e g' => g' = g ∧ ∃ f a2 a3 a4 a5 a6 a7 a8 a9 a10, e = [.v (lvD L), .v (.dct f), a2, a3, a4, a5, a6, a7, a8, a9, a10] ∧ Tab ls i f ∧ Ful ls i f ∧ Okk a5 ∧ Okk a7 ∧ Okk a8 ∧ Okk a9 ∧ Okk a10) ?_ ?_ ?_
  · refine ⟨rfl, [(0, 0)], _, _, _, _, _, _, _, _, _, rfl, ⟨by simp, fun p hp => ?_⟩, fun e e0 e1 => ⟨(0, 0), List.mem_singleton.mpr rfl, Int.le_refl _, e0⟩, okk_no, okk_no, okk_no, okk_no, okk_no⟩
    rw [List.mem_singleton.mp hp]
    exact ⟨Int.le_refl _, by decide, rfl⟩
  · rintro i d e g1 hd ⟨rfl, f, a2, a3, a4, a5, a6, a7, a8, a9, a10, rfl, hT, hF, k5, k7, k8, k9, k10⟩
    obtain ⟨y0, hy, rfl⟩ := enumL_get hd
    rw [List.map_map, List.getElem?_map] at hy
    obtain ⟨v, hv, rfl⟩ := Option.map_eq_some_iff.mp hy
    have hj := (List.getElem?_eq_some_iff.mp hv).1
    have hv2 : ls.getD i 0 = v := by rw [List.getD_eq_getElem?_getD, hv]; rfl
    refine ⟨_, rfl, ?_⟩
    show WS (boxS _ [.v (lvD L), .v (.dct f), a2, .v (.int (i : Nat)), .v (.int v), a5, a6, a7, a8, a9, a10] _) _ _ _ _
    rw [← hv2]
    refine wp_box ?_
    walk_at "wp"
    refine wp_keys rfl ?_
    have hlf := hT.len hl
    refine wp_forL (fun j e g' => ∃ k x5 x7 x8 x9 x10, e = [.v (lvD L), .v (.dct f), .v (.int (2 ^ i)), .v (.int (i : Nat)), .v (.int (ls.getD i 0)), x5, .v (.g g1.length), x7, x8, x9, x10] ∧ g' = g1 ++ [.dct k] ∧ Tab ls (i + 1) k ∧ Okk x5 ∧ Okk x7 ∧ Okk x8 ∧ Okk x9 ∧ Okk x10 ∧ ∀ m ce, m < j → f[m]? = some ce → Srv (ls.getD i 0) (2 ^ i) k ce 0 ∧ Srv (ls.getD i 0) (2 ^ i) k ce 1) ?_ ?_ ?_
    · exact ⟨[], _, _, _, _, _, rfl, rfl, ⟨by simp, fun p hp => by cases hp⟩, k5, k7, k8, k9, k10, fun m ce hm => absurd hm (Nat.not_lt_zero _)⟩
    · rintro j d e g2 hd ⟨k, x5, x7, x8, x9, x10, rfl, rfl, hK, k5, k7, k8, k9, k10, hS⟩
      obtain ⟨ce, hce, rfl⟩ : ∃ ce, f[j]? = some ce ∧ d = .int ce.1 := by
        unfold keyL at hd
        rw [List.getElem?_map] at hd
        obtain ⟨ce, h1, h2⟩ := Option.map_eq_some_iff.mp hd
        exact ⟨ce, h1, h2.symm⟩
      have hm := List.mem_of_getElem? hce
      have hkv := key_val hT.keys hm
      refine ⟨_, rfl, ?_⟩
      show WS (forS _ _ _ [.v (lvD L), .v (.dct f), .v (.int (2 ^ i)), .v (.int (i : Nat)), .v (.int (ls.getD i 0)), .v (.int ce.1), .v (.g g1.length), x7, x8, x9, x10] _) _ _ _ _
      walk_at "wp"
      refine for_step rfl ?_
      show WS (seqS _ _ [.v (lvD L), .v (.dct f), .v (.int (2 ^ i)), .v (.int (i : Nat)), .v (.int (ls.getD i 0)), .v (.int ce.1), .v (.g g1.length), .v (.int 0), x8, x9, x10] _) _ _ _ _
      refine digit_wp (.inl rfl) (by omega) hkv hK hl fun y8 y9 y10 r8 r9 r10 => ?_
      have hK1 := hT.bit hK hm (.inl rfl)
      have hB := srv_new (l := ls.getD i 0) (s := 2 ^ i) (k := k) (ce := ce) (b := 0)
      have hS1 : ∀ m ce', m < j → f[m]? = some ce' → Srv (ls.getD i 0) (2 ^ i) (stp k (ce.1 + caI (ls.getD i 0) (if (0 : Int) = 1 then ce.2 else ce.2 + 2 ^ i) (2 * 2 ^ i)) (ce.2 + 0 * 2 ^ i)) ce' 0 ∧ Srv (ls.getD i 0) (2 ^ i) (stp k (ce.1 + caI (ls.getD i 0) (if (0 : Int) = 1 then ce.2 else ce.2 + 2 ^ i) (2 * 2 ^ i)) (ce.2 + 0 * 2 ^ i)) ce' 1 := fun m ce' hm' hf => by
        obtain ⟨z1, z2⟩ := hS m ce' hm' hf
        exact ⟨srv_stp hK.keys z1, srv_stp hK.keys z2⟩
      generalize stp k (ce.1 + caI (ls.getD i 0) (if (0 : Int) = 1 then ce.2 else ce.2 + 2 ^ i) (2 * 2 ^ i)) (ce.2 + 0 * 2 ^ i) = k1 at hK1 hB hS1 ⊢
      refine for_step rfl ?_
      show WS (seqS _ _ [.v (lvD L), .v (.dct f), .v (.int (2 ^ i)), .v (.int (i : Nat)), .v (.int (ls.getD i 0)), .v (.int ce.1), .v (.g g1.length), .v (.int 1), y8, y9, y10] _) _ _ _ _
      refine digit_wp (.inr rfl) (by omega) hkv hK1 hl fun z8 z9 z10 s8 s9 s10 => ?_
      have hK2 := hT.bit hK1 hm (.inr rfl)
      have hn := srv_new (l := ls.getD i 0) (s := 2 ^ i) (k := k1) (ce := ce) (b := 1)
      refine for_nil ?_
      refine ⟨_, _, _, _, _, _, rfl, rfl, hK2, okk_int, okk_int, s8, s9, s10, fun m ce' hm' hf => ?_⟩
      by_cases z : m = j
      · subst z
        rw [hce] at hf
        cases hf
        exact ⟨srv_stp hK1.keys hB, hn⟩
      · obtain ⟨z1, z2⟩ := hS1 m ce' (by omega) hf
        exact ⟨srv_stp hK1.keys z1, srv_stp hK1.keys z2⟩
    · rintro e g2 ⟨k, x5, x7, x8, x9, x10, rfl, rfl, hK, k5, k7, k8, k9, k10, hS⟩
      walk_at "wp"
      refine ⟨k, [.v (lvD L), .v (.dct k), .v (.int (2 ^ i)), .v (.int (i : Nat)), .v (.int (ls.getD i 0)), x5, .v (.dct k), x7, x8, x9, x10], rfl, ?_, rfl, k, _, _, _, _, _, _, _, _, _, rfl, hK, hF.next fun ce hm => ?_, k5, k7, k8, k9, k10⟩
      · have hgn : fixS g1.length k (.v (.g g1.length)) = some (.v (.dct k)) := by rw [fix_g, if_pos rfl]
        exact fix_cons (okk_lv _ _) (fix_cons hgn (fix_cons rfl (fix_cons rfl (fix_cons rfl (fix_cons (k5 _ _) (fix_cons hgn (fix_cons (k7 _ _) (fix_cons (k8 _ _) (fix_cons (k9 _ _) (fix_cons (k10 _ _) rfl))))))))))
      · obtain ⟨m, hlt, hme⟩ := List.getElem_of_mem hm
        exact hS m ce (by unfold keyL; rw [List.length_map]; exact hlt) (by rw [List.getElem?_eq_getElem hlt, hme])
  · rintro e g1 ⟨rfl, f, a2, a3, a4, a5, a6, a7, a8, a9, a10, rfl, hT, hF, _⟩
    rw [enumL_length, List.length_map, List.length_map] at hT hF
    have hln := hT.len hl
    walk_at "wp"
    refine wp_keys rfl ?_
    obtain ⟨p0, hp0, _⟩ := hF 0 (Int.le_refl _) w1
    have hix : ∀ g, ixD (lvD L) (.int (-1)) g = some (.int la) := fun g => by rw [ix_lv_last (by omega), h1]; rfl
    refine ⟨by unfold keyL; rw [List.length_map]; omega, ?_⟩
    rw [show ((L.length : Int) - 1).toNat = ls.length by omega]
    refine lcMap (f := fun p : Int × Int => D.int p.1) (xs := f) (fun p => D.int (p.1 + caI la p.2 (2 ^ ls.length))) ?_ ?_
    · intro m p hp
      have hkv := key_val hT.keys (List.mem_of_getElem? hp)
      refine ⟨_, rfl, ?_⟩
      show WR (opM addD _ _ [.v (lvD L), .v (.dct f), .v (.int (2 ^ ls.length)), a3, a4, .v (.int p.1), a6, a7, a8, a9, a10] _) _
      walk_at "wp"
      rw [ca_max w1]
    · rw [show (f.map fun p : Int × Int => D.int (p.1 + caI la p.2 (2 ^ ls.length))) = (f.map fun p : Int × Int => p.1 + caI la p.2 (2 ^ ls.length)).map D.int by rw [List.map_map]; rfl]
      have hlen0 : 0 < (f.map fun p : Int × Int => p.1 + caI la p.2 (2 ^ ls.length)).length := by rw [List.length_map]; exact List.length_pos_of_mem hp0
      obtain ⟨M, e, m1, m2⟩ := max_ints g1 hlen0
      walk_at "wp"
      refine ⟨_, e, rfl, f, M, rfl, hT, hF, ?_, fun p hp => m2 _ (List.mem_map.mpr ⟨p, hp, rfl⟩)⟩
      obtain ⟨p, hp, e2⟩ := List.mem_map.mp m1
      exact ⟨p, hp, e2.symm⟩
local macro_rules | `(tactic| walk_at "call") => `(tactic| (with_reducible refine WR.mono (greatest_wp (by assumption) (by assumption) (by assumption) (by assumption)) (fun d g1 h => ?_)))
theorem count_wp {g : List Cell} {L : List Lf} {t : Int} (h1 : 0 < L.length) (h2 : L.length ≤ 61) (ht : 0 ≤ t) : WR (q_count [lvD L, .int t] g) fun d g' => g' = g ∧ d = .int (cntK L t 0 t) := by
  rw [cntK_sum h1 (Int.le_refl _)]
  refine wp_fn rfl ?_
  walk_at "wp"
  rw [show min t t = t by omega]
  refine wp_forL (fun i e g' => g' = g ∧ ∃ a b c d2 d3, e = [.v (lvD L), .v (.int t), .v (.int (sumTo (fun i => cnt (clsP L.length i) (max 0 (oldI L t i)) t) i)), .v (.int ((L.length : Int) - 1)), a, b, c, d2, d3]) ⟨rfl, _, _, _, _, _, rfl⟩ ?_ ?_
  · rintro i d e g1 hd ⟨rfl, a, b, c, d2, d3, rfl⟩
    obtain ⟨hi, rfl⟩ := enum_lv hd
    have w1 := pow_pos' i
    have w2 := pow_le (a := i) (b := 61) (by omega)
    have w3 : (2 : Int) ^ 61 = 2305843009213693952 := by decide
    refine ⟨_, rfl, ?_⟩
    rw [sumTo]
    have hlast : ∀ lo : Int, 0 ≤ lo → lo ≤ t → i + 1 = L.length → cnt (clsP L.length i) lo t = t / 2 ^ i - (lo - 1) / 2 ^ i := fun lo h0 hlt z => by
      rw [show clsP L.length i = mulP (2 ^ i) by funext p; unfold clsP; rw [if_pos z], cnt_mul w1]
      have := div_mono w1 (show lo - 1 ≤ t by omega)
      omega
    have hup : ∀ x : Int, -1 ≤ x → upI x i = (max 0 x + 2 ^ i) / (2 * 2 ^ i) := fun x hx => by
      unfold upI
      by_cases y : 0 < x
      · rw [if_pos y, show max 0 x = x by omega]
      · rw [if_neg y, show max 0 x = 0 by omega, Int.ediv_eq_zero_of_lt (by omega) (by omega)]
    have hmid : ∀ lo : Int, 0 ≤ lo → lo ≤ t → i + 1 ≠ L.length → cnt (clsP L.length i) lo t = (t + 2 ^ i) / (2 * 2 ^ i) - (max 0 (lo - 1) + 2 ^ i) / (2 * 2 ^ i) := fun lo h0 hlt z => by
      rw [show clsP L.length i = rnkP i by funext p; unfold clsP; rw [if_neg z], cnt_rnk h0, hup t (by omega), hup (lo - 1) (by omega), show max 0 t = t by omega]
      have := div_mono (show (0 : Int) < 2 * 2 ^ i by omega) (show max 0 (lo - 1) + 2 ^ i ≤ t + 2 ^ i by omega)
      omega
    cases e : at0 L i with
    | none =>
      have ho : max 0 (oldI L t i) = 0 := by unfold oldI; rw [e]; rfl
      rw [ho]
      show WS (seqS _ _ [_, .v (.int t), _, _, .v (.int (i : Nat)), .v .non, _, _, _] _) _ _ _ _
      walk_at "wp"
      · rw [hlast 0 (Int.le_refl _) ht (by omega), ← Int.add_sub_assoc]
        exact ⟨_, _, _, _, _, rfl⟩
      · rw [hmid 0 (Int.le_refl _) ht (by omega), ← Int.add_sub_assoc]
        exact ⟨_, _, _, _, _, rfl⟩
    | some x =>
      have ho : max 0 (oldI L t i) = max 0 (t - x + 1) := by unfold oldI; rw [e]; simp only; omega
      rw [ho]
      show WS (seqS _ _ [_, .v (.int t), _, _, .v (.int (i : Nat)), .v (.int x), _, _, _] _) _ _ _ _
      walk_at "wp"
      · rw [hlast _ (by omega) (by omega) (by omega), ← Int.add_sub_assoc]
        exact ⟨_, _, _, _, _, rfl⟩
      · rw [hmid _ (by omega) (by omega) (by omega), ← Int.add_sub_assoc]
        exact ⟨_, _, _, _, _, rfl⟩
      · rw [cnt_empty (by omega), Int.add_zero]
        exact ⟨_, _, _, _, _, rfl⟩
  · rintro e g1 ⟨rfl, a, b, c, d2, d3, rfl⟩
    rw [enumL_length, List.length_map]
    walk_at "wp"
local macro_rules | `(tactic| walk_at "call") => `(tactic| (with_reducible show WR (q_count _ _) _; with_reducible refine WR.eqv (count_wp (by walk_at "om") (by walk_at "om") (by walk_at "om")) ?_))
theorem shortv_wp {g : List Cell} {L : List Lf} (h : 0 < L.length) (h1 : L.length ≤ 9999) : WR (q_shortv [lvD L] g) fun d g' => g' = g ∧ d = lvD (short L) := by
  refine wp_fn rfl ?_
  walk_at "wp"
  refine wp_whN (fun k e g' => g' = g ∧ 0 < k ∧ k ≤ L.length ∧ e = [.v (lvD (L.take k))] ∧ cutAt L k = cutAt L L.length) (k := L.length) (by omega) ⟨rfl, h, Nat.le_refl _, by rw [List.take_length]; rfl, rfl⟩ ?_
  rintro k e _ ⟨rfl, k1, k2, rfl, k3⟩
  obtain ⟨k, rfl⟩ : ∃ n, k = n + 1 := ⟨k - 1, by omega⟩
  have hk : (L.take (k + 1)).length = k + 1 := by rw [List.length_take]; omega
  walk_at "wp"
  · rename_i a b
    rw [hk, at0_take (by omega), at0_take (by omega)] at b
    refine ⟨k, by omega, rfl, by omega, by omega, ?_, ?_⟩
    · rw [cut_init, hk, List.take_take, show min (k + 1 - 1) (k + 1) = k by omega]
      rfl
    · rw [← k3, cutAt, if_pos ⟨by omega, b⟩]
  · rename_i a b
    rw [hk, at0_take (by omega), at0_take (by omega)] at b
    rw [short, ← k3, cutAt, if_neg fun z => b z.2]
  · rename_i a
    have : k = 0 := by omega
    subst this
    rw [short, ← k3]
    rfl
local macro_rules | `(tactic| walk_at "call") => `(tactic| (with_reducible show WR (q_shortv _ _) _; with_reducible refine WR.eqv (shortv_wp (by walk_at "om") (by walk_at "om")) ?_))
theorem mod_win {t b N : Int} (h : 0 < N) : (b + (t - b) % N) % N = t % N := by
  have e := Int.emod_add_mul_ediv (t - b) N
  rw [show b + (t - b) % N = t + N * (-((t - b) / N)) by rw [Int.mul_neg]; omega, Int.add_mul_emod_self_left]
theorem at_window {S : List Lf} {ls : List Int} {la b m t : Int} (hL : S = ls.map some ++ [some la]) (hl : ∀ j, 0 ≤ ls.getD j 0) (hla : 0 ≤ la) (hb : ∀ i, i < ls.length → ls.getD i 0 ≤ la) (hm : MostOf S m t) (h : la ≤ b + 1) (h0 : 0 ≤ b) : ∃ i, 0 ≤ i ∧ i < 2 ^ ls.length ∧ cntK S (b + i) 0 (b + i) = m := by
  have hs := pw_pos ls.length
  have s1 := Int.emod_lt_of_pos (t - b) hs
  have s0 := Int.emod_nonneg (t - b) (show (2 : Int) ^ ls.length ≠ 0 by omega)
  refine ⟨(t - b) % 2 ^ ls.length, s0, s1, ?_⟩
  have e : cntK S (b + (t - b) % 2 ^ ls.length) 0 (b + (t - b) % 2 ^ ls.length) = totI ls la (t % 2 ^ ls.length) := by
    rw [hL, tot_eq hl hla (fun i hi => by have := hb i hi; omega) (by omega), mod_win hs]
  have h1 := hm.top _ (show 0 ≤ b + (t - b) % 2 ^ ls.length by omega)
  have h2 := tot_le (t := t) hl hla
  rw [← hL, hm.at_] at h2
  omega
theorem great_most {S : List Lf} {ls : List Int} {la m t M : Int} {f : List (Int × Int)} (hL : S = ls.map some ++ [some la]) (hl : ∀ j, 0 ≤ ls.getD j 0) (hla : 0 ≤ la) (hb : ∀ i, i < ls.length → ls.getD i 0 ≤ la) (hm : MostOf S m t) (hT : Tab ls ls.length f) (hF : Ful ls ls.length f) (h1 : ∃ p ∈ f, M = p.1 + caI la p.2 (2 ^ ls.length)) (h2 : ∀ p ∈ f, p.1 + caI la p.2 (2 ^ ls.length) ≤ M) : M = m := by
  have hs := pw_pos ls.length
  refine Int.le_antisymm ?_ ?_
  · obtain ⟨p, hp, rfl⟩ := h1
    obtain ⟨p0, p1, p2⟩ := hT.is p hp
    have hd := Int.emod_add_mul_ediv la (2 ^ ls.length)
    have s1 := Int.emod_lt_of_pos la hs
    have s0 := Int.emod_nonneg la (show (2 : Int) ^ ls.length ≠ 0 by omega)
    have hmul : (la / 2 ^ ls.length + 1) * 2 ^ ls.length = 2 ^ ls.length * (la / 2 ^ ls.length) + 2 ^ ls.length := by rw [Int.add_mul, Int.one_mul, Int.mul_comm]
    have hx : (p.2 + (la / 2 ^ ls.length + 1) * 2 ^ ls.length) % 2 ^ ls.length = p.2 := by
      rw [Int.add_mul_emod_self_right, Int.emod_eq_of_lt p0 p1]
    have ht : la ≤ p.2 + (la / 2 ^ ls.length + 1) * 2 ^ ls.length := by omega
    have := hm.top _ (show 0 ≤ p.2 + (la / 2 ^ ls.length + 1) * 2 ^ ls.length by omega)
    rw [hL, tot_eq hl hla (fun i hi => by have := hb i hi; omega) (by omega), hx] at this
    rw [p2]
    exact this
  · have h3 := tot_le (t := t) hl hla
    rw [← hL, hm.at_] at h3
    obtain ⟨p, hp, c1, c2⟩ := hF (t % 2 ^ ls.length) (Int.emod_nonneg _ (by omega)) (Int.emod_lt_of_pos _ hs)
    have h4 := caI_anti (l := la) hs c2
    have h5 := h2 p hp
    unfold totI at h3
    omega
theorem wp_ifF {t : M Bool} {a b : M (List D)} {e : Ev.Env} {g : List Cell} {PL : List D → List Cell → Prop} (h : WR (t e g) fun x g1 => if x = true then WR (a e g1) PL else WR (b e g1) PL) : WR (ifF t a b e g) PL := WR.bind (h.mono fun x g1 k => by
  cases x
  · exact k
  · exact k)
theorem base_wp {g : List Cell} {L : List Lf} {la : Int} {sm : Bool} {a0 a3 a5 a6 a7 a8 a9 a10 : Ev.Slot} (h0 : 0 < L.length) (h61 : L.length ≤ 61) (hs : sm = true → L.length ≤ 6) (hla : 0 ≤ la) (hla2 : la ≤ 1000000000000000000) : WR (ifF (boolM (varM 2)) (lcM (rngIt (consM (callM 1 q_two (consM (opM subD (bltM lenF (consM (seeM 1) (nilM))) (conM (.int 1))) (nilM))) (nilM))) (tgN 9) (yesB) (opM addD (seeM 4) (seeM 9)) [9]) (fitM (nilM)) [a0, .v (lvD L), .v (.bl sm), a3, .v (.int la), a5, a6, a7, a8, a9, a10] g) fun ds g' => g' = g ∧ ∃ bs : List Int, ds = bs.map D.int ∧ bs.length ≤ 1000 ∧ (∀ b ∈ bs, 0 ≤ b ∧ b ≤ 10000000000000000000) ∧ (sm = true → ∀ i : Int, 0 ≤ i → i < 2 ^ (L.length - 1) → la + i ∈ bs) := by
  refine wp_ifF ?_
  cases sm with
  | true =>
    have h6 := hs rfl
    have w2 := pow_le (a := L.length - 1) (b := 5) (by omega)
    have w3 : (2 : Int) ^ 5 = 32 := by decide
    have w1 := pow_pos' (L.length - 1)
    walk_at "wp"
    rw [show ((L.length : Int) - 1).toNat = L.length - 1 by omega]
    refine ⟨⟨by omega, by omega⟩, by rw [rngL_length]; omega, ?_⟩
    generalize hN : (2 ^ (L.length - 1) : Int).toNat = N
    refine lcMap (f := fun j : Nat => D.int (0 + (j : Int))) (xs := List.range N) (fun j => D.int (la + (0 + (j : Int)))) ?_ ?_
    · intro j x hx
      refine ⟨_, rfl, ?_⟩
      show WR (opM addD _ _ [a0, .v (lvD L), .v (.bl true), a3, .v (.int la), a5, a6, a7, a8, .v (.int (0 + (x : Int))), a10] _) _
      walk_at "wp"
    · refine ⟨rfl, (List.range N).map fun j : Nat => la + (0 + (j : Int)), by rw [List.map_map]; rfl, by rw [List.length_map, List.length_range]; omega, fun b hb => ?_, fun _ i i0 i1 => ?_⟩
      · obtain ⟨j, hj, rfl⟩ := List.mem_map.mp hb
        have := List.mem_range.mp hj
        omega
      · exact List.mem_map.mpr ⟨i.toNat, List.mem_range.mpr (by omega), by omega⟩
  | false =>
    walk_at "wp"
    exact ⟨[], rfl, by simp, fun _ h => (nomatch h), fun h => by cases h⟩
theorem rule_right_wp {g : List Cell} {n B : Nat} {L : List Lf} {sm : Bool} (h : PotB g n B) (hB : 20 ≤ B) (hG : Given L) (hs : sm = true → L.length ≤ 6) : WR (q_rule_right [.g n, lvD L, .bl sm] g) fun d g' => d = .bl true ∧ PotB g' n (B - 20) := by
  have h0 := hG.ne
  have h61 := hG.most
  have hr := hG.rul
  have hsl := short_last h0
  have hsp := short_pos h0
  refine wp_fn rfl ?_
  walk_at "wp"
  cases e : at0 L (L.length - 1) with
  | none =>
    rw [e] at hsl
    refine WR.eqv (most_none (by decide) hsp hr.most hsl) ?_
    walk_at "wp"
    exact h.less (by omega)
  | some la =>
    rw [e] at hsl
    refine (most_some (by decide) hr.toLives hr.most hsl).mono fun d g1 ⟨e1, m, t, e2, hm, ht⟩ => ?_
    subst e1 e2
    obtain ⟨ls, hL, hlen, hl, hla, hb⟩ := hr.toLives.fin_of hsl
    have hmL := hm.short h0
    have hix : ∀ g, ixD (lvD L) (.int (-1)) g = some (.int la) := fun g => by rw [ix_lv_last (by omega), e]; rfl
    have ht0 := hm.t0
    have hla2 : la ≤ 1000000000000000000 := hG.small la (by rw [← e]; exact at0_mem (by omega))
    have hat := hmL.at_
    have hbd := cntK_bd (L := L) (t := t) (lo := 0) (hi := t)
    rw [hat] at hbd
    have hm0 := hbd.1
    have hm1 : m ≤ 10000000000000000000 := by omega
    walk_at "wp"
    show WR (ifF _ _ _ [.v (.g n), .v (lvD L), .v (.bl sm), .v (.tup [.int m, .int t]), .v (.int la), .no, .no, .v (.int m), .v (.int t), .no, .no] _) _
    refine (base_wp h0 h61 hs hla hla2).mono fun ds g2 ⟨e1, bs, e2, hbl, hbb, hbw⟩ => ?_
    subst e1 e2
    walk_at "wp"
    refine wp_forL (fun i e g' => PotB g' n (B - i) ∧ ∃ (xs : List Int) (a6 : Ev.Slot), e = [.v (.g n), .v (lvD L), .v (.bl sm), .v (.tup [.int m, .int t]), .v (.int la), .own (xs.map D.int), a6, .v (.int m), .v (.int t), .no, .no] ∧ xs.length = bs.length + i ∧ (∀ b ∈ xs, 0 ≤ b ∧ b ≤ 10000000000000000000) ∧ ∀ b ∈ bs, b ∈ xs) ⟨h, bs, _, rfl, rfl, hbb, fun _ h => h⟩ ?_ ?_
    · rintro i d e g3 hd ⟨hp, xs, a6, rfl, hxl, hxb, hxs⟩
      obtain ⟨hi, rfl⟩ := rngL_get hd
      have hi : i < 20 := hi
      refine ⟨_, rfl, ?_⟩
      show WS _ _ _ _ _
      walk_at "wp"
      rename_i r r0 r1 hp4
      refine ⟨xs ++ [la + r], _, by rw [List.map_append]; rfl, by rw [List.length_append, hxl]; rfl, fun b hb => ?_, fun b hb => List.mem_append_left _ (hxs b hb)⟩
      rcases List.mem_append.mp hb with z | z
      · exact hxb b z
      · rw [List.mem_singleton.mp z]
        omega
    · rintro e g3 ⟨hp, xs, a6, rfl, hxl, hxb, hxs⟩
      rw [rngL_length] at hp hxl
      have hp : PotB g3 n (B - 20) := hp
      have hxl : xs.length = bs.length + 20 := hxl
      walk_at "wp"
      refine lcTn (fun _ g' => g' = g3) rfl ?_ ?_
      · rintro i d g4 hd rfl
        rw [List.getElem?_map] at hd
        obtain ⟨b, hb, rfl⟩ := Option.map_eq_some_iff.mp hd
        have hbm := hxb b (List.mem_of_getElem? hb)
        have htop := hmL.top b hbm.1
        refine ⟨_, rfl, ?_⟩
        show WR (opM leD _ _ [_, .v (lvD L), _, _, _, _, _, .v (.int m), _, _, .v (.int b)] _) _
        walk_at "wp"
      · rintro g4 rfl
        cases sm with
        | false =>
          walk_at "wp"
          refine (greatest_wp hL hl hla (by have := hr.most; omega)).mono fun d g5 ⟨e1, f, M, e2, hT, hF, q1, q2⟩ => ?_
          have hMm : M = m := great_most hL hl hla hb hm hT hF q1 q2
          subst e1 e2 hMm
          walk_at "wp"
          exact hp
        | true =>
          walk_at "wp"
          refine lcMap (f := D.int) (xs := xs) (fun b => D.int (cntK L b 0 b)) ?_ ?_
          · intro i b hi
            have hbm := hxb b (List.mem_of_getElem? hi)
            refine ⟨_, rfl, ?_⟩
            show WR (callM 2 q_count _ [_, .v (lvD L), _, _, _, _, _, _, _, _, .v (.int b)] _) _
            walk_at "wp"
          · obtain ⟨i, i0, i1, i2⟩ := at_window hL hl hla hb hm (show la ≤ la + 1 by omega) hla
            have hin : la + i ∈ xs := hxs _ (hbw rfl i i0 (by
              have := pow_le (a := ls.length) (b := L.length - 1) (by have := short_le L; omega)
              omega))
            rw [cntK_short h0] at i2
            rw [show (xs.map fun b => D.int (cntK L b 0 b)) = (xs.map fun b => cntK L b 0 b).map D.int by rw [List.map_map]; rfl]
            refine ⟨_, in_ints, ?_, hp⟩
            rw [decide_eq_true (List.mem_map (f := fun b => cntK L b 0 b).mpr ⟨la + i, hin, i2⟩)]
local macro_rules | `(tactic| walk_at "call") => `(tactic| (with_reducible show WR (q_rule_right _ _) _; (with_reducible refine WR.mono (rule_right_wp (by assumption) (by omega) (by assumption) (by assumption)) (fun d g1 h => ?_))))
theorem low_wp {g : List Cell} {n B : Nat} (h : PotB g n B) (hB : 60 ≤ B) : WR (q_low_lives [.g n] g) fun d g' => ∃ L, d = lvD L ∧ Given L ∧ PotB g' n (B - 60) := by
  refine wp_fn rfl ?_
  walk_at "wp"
  rename_i g1 r r0 r1 hp
  refine wp_forL (fun i e g' => i ≤ 40 ∧ PotB g' n (B - 1 - i) ∧ ∃ (L : List Lf) (h : Int) (a : Ev.Slot), e = [.v (.g n), a, .own (L.map lfD), .v (.int h)] ∧ L.length = i ∧ Acc L h ∧ 0 ≤ h ∧ h ≤ 30 * i) ⟨by omega, hp, [], 0, _, rfl, rfl, Acc.nil _, by omega, by omega⟩ ?_ ?_
  · rintro i d e g3 hd ⟨hi, hp, L, h, a, rfl, hL, hA, h0, h1⟩
    obtain ⟨hi, rfl⟩ := rngL_get hd
    refine ⟨_, rfl, ?_⟩
    show WS _ _ _ _ _
    walk_at "wp"
    refine (ofB_int (B := B - 1 - i) 0 30 (by assumption) (by omega) (by walk_at "om") (by walk_at "om") (by walk_at "ints")).mono fun d g2 ⟨k, e, hk, hp⟩ => ?_
    subst e
    walk_at "wp"
    have hz : Acc (L ++ [some (h + k)]) (h + k) := hA.push (by omega) (by omega)
    rw [map_push]
    first
      | exact ⟨hp.less (by omega), _, _, _, rfl, by walk_at "om", hz, by omega, by omega⟩
      | exact ⟨_, _, _, rfl, by walk_at "om", hz, by omega, by omega⟩
      | exact ⟨_, _, rfl, by walk_at "om", hz, by omega, by omega⟩
      | trace_state
  · rintro e g3 ⟨hi, hp, L, h, a, rfl, hL, hA, h0, h1⟩
    rw [rngL_length] at hp hL hi h1
    walk_at "wp"
    exact ⟨hA.given (by omega) (by omega) (by omega), hp.less (by omega)⟩
theorem right_wp {g : List Cell} {n B : Nat} (h : PotB g n B) (hB : 3000 ≤ B) : WR (q_right [.g n] g) fun d g' => d = .bl true ∧ PotB g' n (B - 3000) := by
  refine wp_fn rfl ?_
  walk_at "wp"
  refine wp_forL (fun i e g' => PotB g' n (B - 300 * i) ∧ ∃ a : Ev.Slot, e = [.v (.g n), a]) ⟨h, _, rfl⟩ ?_ ?_
  · rintro i d e g3 hd ⟨hp, a, rfl⟩
    obtain ⟨hi, rfl⟩ := rngL_get hd
    have hi : i < 6 := hi
    refine ⟨_, rfl, ?_⟩
    show WS _ _ _ _ _
    walk_at "wp"
    rename_i g4 r r0 r1 hp4
    refine (livesB_wp hp4 (by omega) (by omega) (by omega) (by omega) (by omega)).mono fun d g5 ⟨L, e, hl, hA, hp5⟩ => ?_
    subst e
    have hG : Given L := hA.given (by omega) (by omega) (by omega)
    walk_at "wp"
    refine (endedB_wp hp5 (by omega) hG).mono fun d g6 ⟨L', e, hl', hG', hp6⟩ => ?_
    subst e
    walk_at "wp"
    refine (rule_right_wp hp6 (by omega) hG' (fun _ => by omega)).mono fun d g7 ⟨e, hp7⟩ => ?_
    subst e
    walk_at "wp"
    all_goals exact ⟨hp7.less (by omega), _, rfl⟩
  · rintro e g3 ⟨hp, a, rfl⟩
    rw [rngL_length] at hp
    have hp : PotB g3 n (B - 300 * 6) := hp
    walk_at "wp"
    refine (low_wp hp (by omega)).mono fun d g4 ⟨L, e, hG, hp4⟩ => ?_
    subst e
    walk_at "wp"
    refine (rule_right_wp hp4 (by omega) hG (fun h => by cases h)).mono fun d g5 ⟨e, hp5⟩ => ?_
    subst e
    walk_at "wp"
    refine (low_wp hp5 (by omega)).mono fun d g6 ⟨L2, e, hG2, hp6⟩ => ?_
    subst e
    walk_at "wp"
    refine (rule_right_wp hp6 (by omega) hG2 (fun h => by cases h)).mono fun d g7 ⟨e, hp7⟩ => ?_
    subst e
    walk_at "wp"
    refine (ofB_int 30 61 hp7 (by omega) (by walk_at "om") (by walk_at "om") (by walk_at "ints")).mono fun d g8 ⟨k, e, hk, hp8⟩ => ?_
    subst e
    walk_at "wp"
    refine (livesB_wp hp8 (by omega) (by omega) (by omega) (by omega) (by omega)).mono fun d g9 ⟨L3, e, hl3, hA3, hp9⟩ => ?_
    subst e
    have hG3 : Given L3 := hA3.given (by omega) (by omega) (by omega)
    walk_at "wp"
    refine (endedB_wp hp9 (by omega) hG3).mono fun d g10 ⟨L4, e, hl4, hG4, hp10⟩ => ?_
    subst e
    walk_at "wp"
    refine (rule_right_wp hp10 (by omega) hG4 (fun h => by cases h)).mono fun d g11 ⟨e, hp11⟩ => ?_
    exact ⟨e, hp11.less (by omega)⟩
theorem law_true (ns : List Int) (hn : ns.length ≤ 63) : ∃ g, q_law [.sc ns] [] = .ok (.bl true) g := by
  suffices h : WR (q_law [.sc ns] []) fun d g => d = .bl true by
    obtain ⟨d, g, e, rfl⟩ := h.ex
    exact ⟨g, e⟩
  refine wp_fn rfl ?_
  walk_at "wp"
  have hm : (max 1 (min 3 (ns.length : Int))) ≤ 3 := by omega
  generalize max 1 (min 3 (ns.length : Int)) = m at hm ⊢
  refine wp_forL (fun i e g' => ∃ a b c, e = [.v (.sc ns), a, b, c]) ⟨_, _, _, rfl⟩ ?_ ?_
  · rintro i d e g1 hd ⟨a, b, c, rfl⟩
    obtain ⟨hi, rfl⟩ := rngL_get hd
    refine ⟨_, rfl, ?_⟩
    show WS _ _ _ _ _
    walk_at "wp"
    refine (potB_wp (by omega) (by omega)).mono fun d g2 ⟨e, p⟩ => ?_
    subst e
    walk_at "wp"
    refine lcTn (fun j g' => PotB g' g1.length (524288 - 3000 * j)) p ?_ ?_
    · rintro j d g3 hd hp
      obtain ⟨hj, rfl⟩ := rngL_get hd
      have hj : j < 1 := hj
      refine ⟨_, rfl, ?_⟩
      show WR (callM 1 q_right _ [_, _, .v (.g g1.length), _] _) _
      walk_at "wp"
      refine (right_wp hp (by omega)).mono fun d g4 ⟨e, hp4⟩ => ⟨e, hp4.less (by omega)⟩
    · intro g3 _
      walk_at "wp"
      all_goals exact ⟨_, _, _, rfl⟩
  · rintro e g1 ⟨a, b, c, rfl⟩
    walk_at "wp"

end LW
namespace LW
open PySem PySem.Spec PyProof.Rows L2 Ev
def top (i : Nat) : Stmt := PySem.Challenge.pw_rulerkeep_k18_greatest_counts.main.body.getD i (.Pass ⟨0, 0, 0, 0⟩)
abbrev t_q_potv : Stmt := top 30
abbrev t_p_size_of : Stmt := top 1
abbrev t_p_count_at : Stmt := top 4
abbrev t_p_one_bit_more : Stmt := top 5
abbrev t_p_most : Stmt := top 6
abbrev t_p_is_integer : Stmt := top 15
abbrev t_p_Rule_are_lives : Stmt := inClass (top 27) 2
abbrev t_p_shortest : Stmt := top 20
abbrev t_p_Rule_init : Stmt := inClass (top 27) 1
abbrev t_p_Rule_of : Stmt := inClass (top 27) 3
abbrev t_q_two : Stmt := top 33
abbrev t_q_count : Stmt := top 36
abbrev t_q_takev : Stmt := top 31
abbrev t_q_greatest : Stmt := top 38
abbrev t_q_shortv : Stmt := top 37
abbrev t_q_rule_right : Stmt := top 40
abbrev t_q_ended : Stmt := top 35
abbrev t_q_of : Stmt := top 32
abbrev t_q_lives : Stmt := top 34
abbrev t_q_low_lives : Stmt := top 39
abbrev t_q_right : Stmt := top 41
abbrev t_q_law : Stmt := top 42
abbrev t_p_Rule_lives : Stmt := inClass (top 27) 4
structure Txt (P : Program) (W : Wd) (mg : Str → Option Value) where
  q_potv : Df W.K mg "_law_pot" t_q_potv ["_law_script", "_law_k"]
  p_size_of : Df W.K mg "size_of" t_p_size_of ["rank"]
  p_count_at : Df W.K mg "count_at" t_p_count_at ["life", "young", "gap"]
  p_one_bit_more : Df W.K mg "one_bit_more" t_p_one_bit_more ["known", "life", "index"]
  p_most : Df W.K mg "most" t_p_most ["rule"]
  p_is_integer : DfD W.K mg "is_integer" t_p_is_integer ["value", "high"]
  p_Rule_are_lives : Dm W.K "are_lives" "Rule.are_lives" t_p_Rule_are_lives
  p_p_Rule_are_lives : Addr
  r_p_Rule_are_lives : SMet W.K (W.cl 0) (.type "type") "are_lives" p_p_Rule_are_lives p_Rule_are_lives.f
  b_p_Rule_are_lives : Binds W.K p_Rule_are_lives.fd ["value"] []
  p_shortest : Df W.K mg "shortest" t_p_shortest ["lives"]
  p_Rule_init : Dm W.K "__init__" "Rule.__init__" t_p_Rule_init
  m_p_Rule_init : Mk W.K (W.cl 0) p_Rule_init.f
  h_p_Rule_init : ∀ us rest : List Value, us.length = (["self"] : List Str).length → bindArgs p_Rule_init.fd ⟨us ++ rest, []⟩ = (newTuple rest >>= fun t => pure ((["self"] : List Str).zip us ++ [(("lives" : Str), t)]))
  p_Rule_of : Dm W.K "of" "Rule.of" t_p_Rule_of
  p_p_Rule_of : Addr
  r_p_Rule_of : ClX.CMet W.K (W.cl 0) (.type "type") "of" p_p_Rule_of p_Rule_of.f
  b_p_Rule_of : Binds W.K p_Rule_of.fd ["cls", "lives"] []
  q_two : Df W.K mg "_law_two" t_q_two ["_law_index"]
  q_count : Df W.K mg "_law_count" t_q_count ["_law_lives_here", "_law_time"]
  q_takev : Df W.K mg "_law_take" t_q_takev ["_law_pot_here", "_law_many"]
  q_greatest : Df W.K mg "_law_greatest" t_q_greatest ["_law_lives_here"]
  q_shortv : Df W.K mg "_law_short" t_q_shortv ["_law_lives_here"]
  q_rule_right : Df W.K mg "_law_rule_right" t_q_rule_right ["_law_pot_here", "_law_lives_here", "_law_is_small"]
  q_ended : Df W.K mg "_law_ended" t_q_ended ["_law_pot_here", "_law_lives_here"]
  q_of : Df W.K mg "_law_of" t_q_of ["_law_pot_here", "_law_some"]
  q_lives : Df W.K mg "_law_lives" t_q_lives ["_law_pot_here", "_law_many", "_law_great"]
  q_low_lives : Df W.K mg "_law_low_lives" t_q_low_lives ["_law_pot_here"]
  q_right : Df W.K mg "_law_right" t_q_right ["_law_pot_here"]
  q_law : Df W.K mg "law" t_q_law ["_law_script"]
  p_Rule_lives : Dm W.K "lives" "Rule.lives" t_p_Rule_lives
  q0_p_Rule_lives : ∃ p, PropOf W.K (W.cl 0) "lives" p p_Rule_lives.f
  q1_p_Rule_lives : ∃ p, PropOf W.K (W.cl 1) "lives" p p_Rule_lives.f
  b_p_Rule_lives : Binds W.K p_Rule_lives.fd ["self"] []
  g0 : mg "Rule" = some (.ref (W.cl 0))
  c0 : ClsRec W.K (W.cl 0)
  g1 : mg "LongRule" = some (.ref (W.cl 1))
  c1 : ClsRec W.K (W.cl 1)
  fld : FldOk W 2 "held_lives"
  k_MOST_COUNT : ∃ t, mg "MOST_COUNT" = some (.int 61 t)
  k_MOST_LIFE : ∃ t, mg "MOST_LIFE" = some (.int 1000000000000000000 t)
  n_abs : mg "abs" = none
  n_all : mg "all" = none
  n_bool : mg "bool" = none
  n_enumerate : mg "enumerate" = none
  n_int : mg "int" = none
  n_isinstance : mg "isinstance" = none
  n_len : mg "len" = none
  n_max : mg "max" = none
  n_min : mg "min" = none
  n_range : mg "range" = none
  n_repr : mg "repr" = none
  n_tuple : mg "tuple" = none
  n_zip : mg "zip" = none
theorem sc_q_potv : FnScope ["_law_script", "_law_k", "_law_cell", "_law_digits"] ["_law_script", "_law_k"] (defScope t_q_potv) := ⟨rfl, rfl, rfl, by decide +kernel, rfl, by decide +kernel, by decide +kernel⟩
theorem sc_p_size_of : FnScope ["rank"] ["rank"] (defScope t_p_size_of) := ⟨rfl, rfl, rfl, by decide +kernel, rfl, by decide +kernel, by decide +kernel⟩
theorem sc_p_count_at : FnScope ["life", "young", "gap"] ["life", "young", "gap"] (defScope t_p_count_at) := ⟨rfl, rfl, rfl, by decide +kernel, rfl, by decide +kernel, by decide +kernel⟩
theorem sc_p_one_bit_more : FnScope ["known", "life", "index", "found", "size", "count", "end", "bit", "young", "whole", "later"] ["known", "life", "index"] (defScope t_p_one_bit_more) := ⟨rfl, rfl, rfl, by decide +kernel, rfl, by decide +kernel, by decide +kernel⟩
theorem sc_p_most : FnScope ["rule", "known", "gap", "last", "index", "life", "count", "end", "lives"] ["rule"] (defScope t_p_most) := ⟨rfl, rfl, rfl, by decide +kernel, rfl, by decide +kernel, by decide +kernel⟩
theorem sc_p_is_integer : FnScope ["value", "high"] ["value", "high"] (defScope t_p_is_integer) := ⟨rfl, rfl, rfl, by decide +kernel, rfl, by decide +kernel, by decide +kernel⟩
theorem sc_p_Rule_are_lives : FnScope ["value", "whole", "life", "later"] ["value"] (defScope t_p_Rule_are_lives) := ⟨rfl, rfl, rfl, by decide +kernel, rfl, by decide +kernel, by decide +kernel⟩
theorem sc_p_shortest : FnScope ["lives", "many"] ["lives"] (defScope t_p_shortest) := ⟨rfl, rfl, rfl, by decide +kernel, rfl, by decide +kernel, by decide +kernel⟩
theorem sc_p_Rule_init : FnScope ["self", "lives"] ((["self"] : List Str) ++ (["lives"] : List Str)) (defScope t_p_Rule_init) := ⟨rfl, rfl, rfl, by decide +kernel, rfl, by decide +kernel, by decide +kernel⟩
theorem sc_p_Rule_of : FnScope ["cls", "lives"] ["cls", "lives"] (defScope t_p_Rule_of) := ⟨rfl, rfl, rfl, by decide +kernel, rfl, by decide +kernel, by decide +kernel⟩
theorem sc_q_two : FnScope ["_law_index", "_law_value", "_law_turn"] ["_law_index"] (defScope t_q_two) := ⟨rfl, rfl, rfl, by decide +kernel, rfl, by decide +kernel, by decide +kernel⟩
theorem sc_q_count : FnScope ["_law_lives_here", "_law_time", "_law_total", "_law_last", "_law_index", "_law_life", "_law_size", "_law_low", "_law_ahead"] ["_law_lives_here", "_law_time"] (defScope t_q_count) := ⟨rfl, rfl, rfl, by decide +kernel, rfl, by decide +kernel, by decide +kernel⟩
theorem sc_q_takev : FnScope ["_law_pot_here", "_law_many", "_law_prime", "_law_mixed", "_law_digit"] ["_law_pot_here", "_law_many"] (defScope t_q_takev) := ⟨rfl, rfl, rfl, by decide +kernel, rfl, by decide +kernel, by decide +kernel⟩
theorem sc_q_greatest : FnScope ["_law_lives_here", "_law_ends", "_law_size", "_law_index", "_law_life", "_law_count_here", "_law_later", "_law_digit", "_law_young", "_law_end", "_law_many"] ["_law_lives_here"] (defScope t_q_greatest) := ⟨rfl, rfl, rfl, by decide +kernel, rfl, by decide +kernel, by decide +kernel⟩
theorem sc_q_shortv : FnScope ["_law_lives_here"] ["_law_lives_here"] (defScope t_q_shortv) := ⟨rfl, rfl, rfl, by decide +kernel, rfl, by decide +kernel, by decide +kernel⟩
theorem sc_q_rule_right : FnScope ["_law_pot_here", "_law_lives_here", "_law_is_small", "_law_told", "_law_begin", "_law_times", "_law_turn", "_law_count_here", "_law_time", "_law_more", "_law_one"] ["_law_pot_here", "_law_lives_here", "_law_is_small"] (defScope t_q_rule_right) := ⟨rfl, rfl, rfl, by decide +kernel, rfl, by decide +kernel, by decide +kernel⟩
theorem sc_q_ended : FnScope ["_law_pot_here", "_law_lives_here"] ["_law_pot_here", "_law_lives_here"] (defScope t_q_ended) := ⟨rfl, rfl, rfl, by decide +kernel, rfl, by decide +kernel, by decide +kernel⟩
theorem sc_q_of : FnScope ["_law_pot_here", "_law_some"] ["_law_pot_here", "_law_some"] (defScope t_q_of) := ⟨rfl, rfl, rfl, by decide +kernel, rfl, by decide +kernel, by decide +kernel⟩
theorem sc_q_lives : FnScope ["_law_pot_here", "_law_many", "_law_great", "_law_index", "_law_found", "_law_here", "_law_size", "_law_more"] ["_law_pot_here", "_law_many", "_law_great"] (defScope t_q_lives) := ⟨rfl, rfl, rfl, by decide +kernel, rfl, by decide +kernel, by decide +kernel⟩
theorem sc_q_low_lives : FnScope ["_law_pot_here", "_law_index", "_law_found", "_law_here"] ["_law_pot_here"] (defScope t_q_low_lives) := ⟨rfl, rfl, rfl, by decide +kernel, rfl, by decide +kernel, by decide +kernel⟩
theorem sc_q_right : FnScope ["_law_pot_here", "_law_turn"] ["_law_pot_here"] (defScope t_q_right) := ⟨rfl, rfl, rfl, by decide +kernel, rfl, by decide +kernel, by decide +kernel⟩
theorem sc_q_law : FnScope ["_law_script", "_law_k", "_law_pot_here", "_law_turn"] ["_law_script"] (defScope t_q_law) := ⟨rfl, rfl, rfl, by decide +kernel, rfl, by decide +kernel, by decide +kernel⟩
theorem sc_p_Rule_lives : FnScope ["self"] ["self"] (defScope t_p_Rule_lives) := ⟨rfl, rfl, rfl, by decide +kernel, rfl, by decide +kernel, by decide +kernel⟩
section
variable {P : Program} {w : World} {W : Wd} {mg : Str → Option Value} {base : Heap} (T : Txt P W mg)
include T
theorem prp_ok : PrpOk P w W mg base 2 "lives" "held_lives" := ⟨T.fld.cls, T.fld.fd, fun c hc => by
  match c, hc with
  | 0, h => exact let ⟨q, hq⟩ := T.q0_p_Rule_lives; ⟨q, T.p_Rule_lives.f, T.p_Rule_lives.fd, hq, prp_of T.p_Rule_lives.fn sc_p_Rule_lives rfl rfl (T.fld.cls 0 h) (T.fld.no 0 h), T.b_p_Rule_lives⟩
  | 1, h => exact let ⟨q, hq⟩ := T.q1_p_Rule_lives; ⟨q, T.p_Rule_lives.f, T.p_Rule_lives.fd, hq, prp_of T.p_Rule_lives.fn sc_p_Rule_lives rfl rfl (T.fld.cls 1 h) (T.fld.no 1 h), T.b_p_Rule_lives⟩
  ⟩
theorem ok_q_potv : FnG P w W.K mg base CX0 1 T.q_potv.f T.q_potv.fd ["_law_script", "_law_k"] (spEv W 2 q_potv) :=
  fn_ev T.q_potv.fn sc_q_potv rfl rfl fun cdv A out s H E hg hr =>
    (et_cons (es_set sc_q_potv.nd (ev_if (ev_cmpT c_lt (ev_see 1) (see (ev_blt (b_len rfl) (by rfl) T.n_len bt_len (es_cons (ev_see 0) es_nil)))) (ev_ix rfl (ev_see 0) (ev_see 1)) (ev_add rfl (see (ev_mul (see ev_int) (ev_see 1))) (see ev_int))))
    (et_cons (es_set sc_q_potv.nd (ev_mul (see (ev_mod (see (ev_blt (b_abs) (by rfl) T.n_abs bt_abs (es_cons (ev_see 2) es_nil))) (see (ev_con (ev_mulW (see (ev_con (ev_mulW (see (ev_con (ev_pow (see ev_int) (see ev_int)) (fun _ _ => by with_unfolding_all rfl))) (see (ev_con (ev_pow (see ev_int) (see ev_int)) (fun _ _ => by with_unfolding_all rfl)))) (fun _ _ => by with_unfolding_all rfl))) (see (ev_con (ev_pow (see ev_int) (see ev_int)) (fun _ _ => by with_unfolding_all rfl)))) (fun _ _ => by with_unfolding_all rfl))))) (see (ev_ty t_int (by rfl) T.n_int bt_int (es_cons (see (ev_cmp c_ge (see (ev_blt (b_abs) (by rfl) T.n_abs bt_abs (es_cons (ev_see 2) es_nil))) (see (ev_con (ev_pow (see ev_int) (see ev_int)) (fun _ _ => by with_unfolding_all rfl))))) es_nil)))))
    (et_one (es_retCell (ev_tupF (ea_cons (ev_var 3) (ea_cons (ev_mod (see (ev_add rfl (see (ev_add rfl (see (ev_mul (see (ev_mod (ev_see 2) (see ev_int))) (see ev_int))) (see (ev_mul (see ev_int) (ev_see 1))))) (see ev_int))) (see ev_int)) (ea_cons ev_int ea_nil))))))))
theorem ok_p_size_of : FnG P w W.K mg base CX0 1 T.p_size_of.f T.p_size_of.fd ["rank"] (spEv W 1 p_size_of) :=
  fn_ev T.p_size_of.fn sc_p_size_of rfl rfl fun cdv A out s H E hg hr =>
    (et_one (es_ret (ev_shl (see ev_int) (ev_see 0))))
theorem ok_p_count_at : FnG P w W.K mg base CX0 1 T.p_count_at.f T.p_count_at.fd ["life", "young", "gap"] (spEv W 3 p_count_at) :=
  fn_ev T.p_count_at.fn sc_p_count_at rfl rfl fun cdv A out s H E hg hr =>
    (et_one (es_ret (ev_if (ev_cmpT c_le (ev_see 0) (ev_see 1)) ev_int (ev_add rfl (see (ev_fdiv (see (ev_sub (see (ev_sub (ev_see 0) (see ev_int))) (ev_see 1))) (ev_see 2))) (see ev_int)))))
theorem ok_p_one_bit_more : FnG P w W.K mg base CX0 2 T.p_one_bit_more.f T.p_one_bit_more.fd ["known", "life", "index"] (spEv W 3 p_one_bit_more) :=
  fn_ev T.p_one_bit_more.fn sc_p_one_bit_more rfl rfl fun cdv A out s H E hg hr =>
    (et_cons (es_par rfl sc_p_one_bit_more.nd ev_dnew (ev_call (ok_p_size_of T) hg (hr.mono (by decide)) (by rfl) T.p_size_of.gl T.p_size_of.fn.kp T.p_size_of.bd pass00 (ea_cons (ev_var 2) ea_nil)))
    (et_cons (es_forItems (i := 0) PassesOwn.never rfl (ei_items) (eg_tup rfl rfl (egs_cons (eg_name 5 sc_p_one_bit_more.nd) (egs_cons (eg_name 6 sc_p_one_bit_more.nd) egs_nil)))
    (et_one (es_for PassesOwn.never rfl (ei_seq rfl (ev_tup (ea_cons ev_int (ea_cons ev_int ea_nil)))) (eg_name 7 sc_p_one_bit_more.nd)
    (et_cons (es_set sc_p_one_bit_more.nd (ev_if (ev_cmpT (c_eqP rfl hr.units) (ev_see 7) (see ev_int)) (ev_var 6) (ev_add rfl (ev_see 6) (ev_see 4))))
    (et_cons (es_par rfl sc_p_one_bit_more.nd (ev_add rfl (ev_see 5) (see (ev_call (ok_p_count_at T) hg (hr.mono (by decide)) (by rfl) T.p_count_at.gl T.p_count_at.fn.kp T.p_count_at.bd pass00 (ea_cons (ev_var 1) (ea_cons (ev_var 8) (ea_cons (ev_mul (see ev_int) (ev_see 4)) ea_nil)))))) (ev_add rfl (ev_see 6) (see (ev_mul (ev_see 7) (ev_see 4)))))
    (et_one (es_if (PW.pt (evw_or (ev_dninT hr (ev_var 9) (ev_var 3)) (evw_or1 (ev_cmpT c_lt (ev_see 10) (see (ev_dget hr (ev_var 3) (ev_var 9) (fun _ _ => rfl)))))))
    (et_one (es_dput hr (ev_var 10) (ev_var 3) (ev_var 9) (by rfl)))
    et_nil)))))))
    (et_one (es_ret (ev_var 3)))))
theorem ok_p_most : FnG P w W.K mg base CX0 3 T.p_most.f T.p_most.fd ["rule"] (spEv W 1 p_most) :=
  fn_ev T.p_most.fn sc_p_most rfl rfl fun cdv A out s H E hg hr =>
    (et_cons (es_star (n := 2) rfl rfl (by decide) (ev_prp rfl (prp_ok T) (hr.mono (by decide)) (ev_var 0)) (egs_star (eg_name 8 sc_p_most.nd) (egs_cons (eg_name 3 sc_p_most.nd) egs_nil)))
    (et_cons (es_if (ev_cmpT c_isN (ev_see 3) (see ev_non))
    (et_one (es_ret ev_non))
    et_nil)
    (et_cons (es_set sc_p_most.nd ev_done)
    (et_cons (es_for PassesOwn.never rfl (ei_enum rfl (by rfl) T.n_enumerate (ea_cons (ev_var 8) ea_nil)) (eg_tup rfl rfl (egs_cons (eg_name 4 sc_p_most.nd) (egs_cons (eg_name 5 sc_p_most.nd) egs_nil)))
    (et_one (es_set sc_p_most.nd (ev_callD (ok_p_one_bit_more T) hg (hr.mono (by decide)) (by rfl) T.p_one_bit_more.gl T.p_one_bit_more.fn.kp T.p_one_bit_more.bd pass00 (ea_cons (ev_var 1) (ea_cons (ev_var 5) (ea_cons (ev_var 4) ea_nil)))))))
    (et_cons (es_set sc_p_most.nd (ev_call (ok_p_size_of T) hg (hr.mono (by decide)) (by rfl) T.p_size_of.gl T.p_size_of.fn.kp T.p_size_of.bd pass00 (ea_cons (ev_blt (b_len rfl) (by rfl) T.n_len bt_len (es_cons (ev_see 8) es_nil)) ea_nil)))
    (et_cons (es_asg (ev_blt (b_maxT rfl rfl (room_u3 hr)) (by rfl) T.n_max bt_max (es_cons (see (ev_val (ev_lcItems (i := 1) (own := [("count", 6), ("end", 7)]) rfl sc_p_most.nd (ei_items) (blkOk_by (N := ["rule", "known", "gap", "last", "index", "life", "count", "end", "lives"]) (sc := defScope t_p_most) (by decide +kernel)) (fun _ _ _ _ _ => (eg_tup rfl rfl (egs_cons (eg_name 6 sc_p_most.nd) (egs_cons (eg_name 7 sc_p_most.nd) egs_nil)))) (fun _ _ _ _ _ => epts_nil) (fun _ _ _ _ _ => (ev_tup (ea_cons (ev_add rfl (ev_see 6) (see (ev_call (ok_p_count_at T) hg (hr.mono (by decide)) (by rfl) T.p_count_at.gl T.p_count_at.fn.kp T.p_count_at.bd pass00 (ea_cons (ev_var 3) (ea_cons (ev_var 7) (ea_cons (ev_var 2) ea_nil)))))) (ea_cons (ev_var 7) ea_nil))))))) es_nil)) (eg_tup rfl rfl (egs_cons (eg_name 6 sc_p_most.nd) (egs_cons (eg_name 7 sc_p_most.nd) egs_nil))))
    (et_one (es_ret (ev_tup (ea_cons (ev_var 6) (ea_cons (ev_add rfl (ev_see 7) (see (ev_mul (see (ev_add rfl (see (ev_fdiv (ev_see 3) (ev_see 2))) (see ev_int))) (ev_see 2)))) ea_nil)))))))))))
theorem ok_p_is_integer : FnG P w W.K mg base CX0 1 T.p_is_integer.f T.p_is_integer.fd ["value", "high"] (spEv W 2 p_is_integer) :=
  fn_evD T.p_is_integer.fn sc_p_is_integer rfl rfl fun cdv A out s H E hg hr =>
    (et_one (es_ret (ev_and (ev_isi (x := "isinstance") (y := "int") rfl (by rfl) rfl T.n_isinstance (by rfl) T.n_int bt_isinstance bt_int (ev_var 0)) (ev_and (ev_not (ev_isi (x := "isinstance") (y := "bool") rfl (by rfl) rfl T.n_isinstance (by rfl) T.n_bool bt_isinstance bt_bool (ev_var 0))) (ev_and (ev_cmp c_ge (ev_see 0) (see ev_int)) (ev_one (ev_or (ev_cmp c_isN (ev_see 1) (see ev_non)) (ev_one (ev_cmp c_le (ev_see 0) (ev_see 1))))))))))
theorem ok_p_Rule_are_lives : FnG P w W.K mg base CX0 2 T.p_Rule_are_lives.f T.p_Rule_are_lives.fd ["value"] (spEv W 1 p_Rule_are_lives) :=
  fn_ev T.p_Rule_are_lives.fn sc_p_Rule_are_lives rfl rfl fun cdv A out s H E hg hr =>
    (et_cons (es_if (PW.pt (evw_or (evt_not (ev_test (ev_isi (x := "isinstance") (y := "tuple") rfl (by rfl) rfl T.n_isinstance (by rfl) T.n_tuple bt_isinstance bt_tuple (ev_var 0)))) (evw_or1 (evt_not (evt_chain c_le c_le (see ev_int) (see (ev_blt (b_len rfl) (by rfl) T.n_len bt_len (es_cons (ev_see 0) es_nil))) (see (ev_gint (by rfl) T.k_MOST_COUNT)))))))
    (et_one (es_ret ev_bl))
    et_nil)
    (et_cons (es_set sc_p_Rule_are_lives.nd (ev_if (ev_cmpT c_isN (see (ev_ix rfl (ev_see 0) (see (ev_neg (see ev_int))))) (see ev_non)) (ev_slice rfl (ev_see 0) eo_none (eo_some (see (ev_neg (see ev_int))))) (ev_var 0)))
    (et_cons (es_if (evt_not (ev_test (ev_blt (b_all rfl rfl) (by rfl) T.n_all bt_all (es_cons (see (ev_val (ev_lc (own := [("life", 2)]) rfl sc_p_Rule_are_lives.nd (ei_seq rfl (ev_var 1)) (blkOk_by (N := ["value", "whole", "life", "later"]) (sc := defScope t_p_Rule_are_lives) (by decide +kernel)) (fun _ _ _ _ _ => (eg_name 2 sc_p_Rule_are_lives.nd)) (fun _ _ _ _ _ => epts_nil) (fun _ _ _ _ _ => (ev_callP (FnP.ofD (ok_p_is_integer T) T.p_is_integer.bd) hg (hr.mono (by decide)) (by rfl) T.p_is_integer.gl T.p_is_integer.fn.kp pass00 (ea_cons (ev_var 2) (ea_cons (ev_gint (by rfl) T.k_MOST_LIFE) ea_nil))))))) es_nil))))
    (et_one (es_ret ev_bl))
    et_nil)
    (et_one (es_ret (ev_blt (b_all rfl rfl) (by rfl) T.n_all bt_all (es_cons (see (ev_val (ev_lc (own := [("life", 2), ("later", 3)]) rfl sc_p_Rule_are_lives.nd (ei_zip rfl (by rfl) T.n_zip (ea_cons (ev_var 1) (ea_cons (ev_slice rfl (ev_see 1) (eo_some (see ev_int)) eo_none) ea_nil))) (blkOk_by (N := ["value", "whole", "life", "later"]) (sc := defScope t_p_Rule_are_lives) (by decide +kernel)) (fun _ _ _ _ _ => (eg_tup rfl rfl (egs_cons (eg_name 2 sc_p_Rule_are_lives.nd) (egs_cons (eg_name 3 sc_p_Rule_are_lives.nd) egs_nil)))) (fun _ _ _ _ _ => epts_nil) (fun _ _ _ _ _ => (ev_cmp c_le (ev_see 2) (ev_see 3)))))) es_nil)))))))
theorem ok_p_shortest : FnG P w W.K mg base CX0 1 T.p_shortest.f T.p_shortest.fd ["lives"] (spEv W 1 p_shortest) :=
  fn_ev T.p_shortest.fn sc_p_shortest rfl rfl fun cdv A out s H E hg hr =>
    (et_cons (es_set sc_p_shortest.nd (ev_blt (b_len rfl) (by rfl) T.n_len bt_len (es_cons (ev_see 0) es_nil)))
    (et_cons (es_while 100000 PassesOwn.never (PW.pt (evw_and (ev_cmpT c_gt (ev_see 1) (see ev_int)) (evw_and1 (ev_cmpT (c_eqP rfl hr.units) (see (ev_ix rfl (ev_see 0) (see (ev_sub (ev_see 1) (see ev_int))))) (see (ev_ix rfl (ev_see 0) (see (ev_sub (ev_see 1) (see ev_int)))))))))
    (et_one (es_isub sc_p_shortest.nd (see ev_int))))
    (et_one (es_ret (ev_ty (b_tuple rfl) (by rfl) T.n_tuple bt_tuple (es_cons (see (ev_slice rfl (ev_see 0) eo_none (eo_some (ev_see 1)))) es_nil))))))
theorem ok_p_Rule_init : FnP P w W.K mg base CX0 3 T.p_Rule_init.f (spIn W 0 (inStar p_Rule_init)) :=
  in_star T.p_Rule_init.fn sc_p_Rule_init rfl T.h_p_Rule_init rfl (T.fld.cls 0 (by decide)) (T.fld.no 0 (by decide)) (T.fld.fd 0 (by decide)) fun cdv A out s H E hg hr =>
    ⟨(evt_not (ev_test (ev_smeth (pl := _) (ev_cls (c := 0) (by rfl) T.g0) T.c0.cr T.r_p_Rule_are_lives ((ok_p_Rule_are_lives T).pos0 T.b_p_Rule_are_lives) hg (hr.mono (by decide)) pass00 (ea_cons (ev_var 1) ea_nil)))), (et_one es_bad), (ev_call (ok_p_shortest T) hg (hr.mono (by decide)) (by rfl) T.p_shortest.gl T.p_shortest.fn.kp T.p_shortest.bd pass00 (ea_cons (ev_var 1) ea_nil)), Or.inl rfl, rfl⟩
theorem ok_p_Rule_of : FnG P w W.K mg base CX0 5 T.p_Rule_of.f T.p_Rule_of.fd ["cls", "lives"] (spEv W 2 p_Rule_of) :=
  fn_ev T.p_Rule_of.fn sc_p_Rule_of rfl rfl fun cdv A out s H E hg hr =>
    (et_cons (es_if (evt_not (ev_test (ev_smeth (pl := _) (ev_var 0) T.c0.cr T.r_p_Rule_are_lives ((ok_p_Rule_are_lives T).pos0 T.b_p_Rule_are_lives) hg (hr.mono (by decide)) pass00 (ea_cons (ev_var 1) ea_nil))))
    (et_one es_bad)
    et_nil)
    (et_one (es_ret (ev_mkStar rfl T.m_p_Rule_init (ok_p_Rule_init T) hg (hr.mono (by decide)) pass00 (ev_var 0) (ev_var 1)))))
theorem ok_q_two : FnG P w W.K mg base CX0 1 T.q_two.f T.q_two.fd ["_law_index"] (spEv W 1 q_two) :=
  fn_ev T.q_two.fn sc_q_two rfl rfl fun cdv A out s H E hg hr =>
    (et_cons (es_set sc_q_two.nd ev_int)
    (et_cons (es_for PassesOwn.never rfl (ei_range1 (by rfl) T.n_range (es_cons (ev_see 0) es_nil)) (eg_name 2 sc_q_two.nd)
    (et_one (es_set sc_q_two.nd (ev_mul (ev_see 1) (see ev_int)))))
    (et_one (es_ret (ev_var 1)))))
theorem ok_q_count : FnG P w W.K mg base CX0 2 T.q_count.f T.q_count.fd ["_law_lives_here", "_law_time"] (spEv W 2 q_count) :=
  fn_ev T.q_count.fn sc_q_count rfl rfl fun cdv A out s H E hg hr =>
    (et_cons (es_par rfl sc_q_count.nd ev_int (ev_sub (see (ev_blt (b_len rfl) (by rfl) T.n_len bt_len (es_cons (ev_see 0) es_nil))) (see ev_int)))
    (et_cons (es_for PassesOwn.never rfl (ei_enum rfl (by rfl) T.n_enumerate (ea_cons (ev_var 0) ea_nil)) (eg_tup rfl rfl (egs_cons (eg_name 4 sc_q_count.nd) (egs_cons (eg_name 5 sc_q_count.nd) egs_nil)))
    (et_cons (es_par rfl sc_q_count.nd (ev_call (ok_q_two T) hg (hr.mono (by decide)) (by rfl) T.q_two.gl T.q_two.fn.kp T.q_two.bd pass00 (ea_cons (ev_var 4) ea_nil)) (ev_if (ev_cmpT c_isN (ev_see 5) (see ev_non)) ev_int (ev_blt (b_max rfl rfl) (by rfl) T.n_max bt_max (es_cons (see ev_int) (es_cons (see (ev_add rfl (see (ev_sub (ev_see 1) (ev_see 5))) (see ev_int))) es_nil)))))
    (et_one (es_if (ev_cmpT c_le (ev_see 7) (ev_see 1))
    (et_one (es_if (ev_cmpT (c_eqP rfl hr.units) (ev_see 4) (ev_see 3))
    (et_one (es_set sc_q_count.nd (ev_sub (see (ev_add rfl (ev_see 2) (see (ev_fdiv (ev_see 1) (ev_see 6))))) (see (ev_fdiv (see (ev_sub (ev_see 7) (see ev_int))) (ev_see 6))))))
    (et_cons (es_set sc_q_count.nd (ev_fdiv (see (ev_add rfl (see (ev_blt (b_max rfl rfl) (by rfl) T.n_max bt_max (es_cons (see ev_int) (es_cons (see (ev_sub (ev_see 7) (see ev_int))) es_nil)))) (ev_see 6))) (see (ev_mul (see ev_int) (ev_see 6)))))
    (et_one (es_set sc_q_count.nd (ev_sub (see (ev_add rfl (ev_see 2) (see (ev_fdiv (see (ev_add rfl (ev_see 1) (ev_see 6))) (see (ev_mul (see ev_int) (ev_see 6))))))) (ev_see 8)))))))
    et_nil))))
    (et_one (es_ret (ev_var 2)))))
theorem ok_q_takev : FnG P w W.K mg base CX0 1 T.q_takev.f T.q_takev.fd ["_law_pot_here", "_law_many"] (spEv W 2 q_takev) :=
  fn_ev T.q_takev.fn sc_q_takev rfl rfl fun cdv A out s H E hg hr =>
    (et_cons (es_if (ev_cmpT c_gt (see (ev_ix rfl (ev_see 0) (see ev_int))) (see ev_int))
    (et_cons (es_set sc_q_takev.nd (ev_mod (see (ev_ix rfl (ev_see 0) (see ev_int))) (ev_see 1)))
    (et_cons (es_setI 0 ev_int (ev_fdiv (see (ev_ix rfl (ev_see 0) (see ev_int))) (ev_see 1)))
    (et_one (es_ret (ev_var 4)))))
    et_nil)
    (et_cons (es_setI 0 ev_int (ev_add rfl (see (ev_ix rfl (ev_see 0) (see ev_int))) (see ev_int)))
    (et_cons (es_set sc_q_takev.nd (ev_ix rfl (see (ev_val (ev_tupF (ea_cons ev_int (ea_cons ev_int (ea_cons ev_int (ea_cons ev_int ea_nil))))))) (see (ev_mod (see (ev_ix rfl (ev_see 0) (see ev_int))) (see ev_int)))))
    (et_cons (es_set sc_q_takev.nd (ev_mod (see (ev_pow (see (ev_add rfl (see (ev_add rfl (see (ev_ix rfl (ev_see 0) (see ev_int))) (see (ev_mul (see (ev_mul (see ev_int) (see (ev_ix rfl (ev_see 0) (see ev_int))))) (see (ev_ix rfl (ev_see 0) (see ev_int))))))) (see ev_int))) (see ev_int))) (ev_see 2)))
    (et_one (es_ret (ev_mod (see (ev_fdiv (see (ev_mod (see (ev_mul (ev_see 3) (see (ev_add rfl (see (ev_mod (ev_see 3) (see ev_int))) (see (ev_ix rfl (ev_see 0) (see ev_int))))))) (ev_see 2))) (see ev_int))) (ev_see 1))))))))
theorem ok_q_greatest : FnG P w W.K mg base CX0 2 T.q_greatest.f T.q_greatest.fd ["_law_lives_here"] (spEv W 1 q_greatest) :=
  fn_ev T.q_greatest.fn sc_q_greatest rfl rfl fun cdv A out s H E hg hr =>
    (et_cons (es_set sc_q_greatest.nd ev_done)
    (et_cons (es_for PassesOwn.never rfl (ei_enum rfl (by rfl) T.n_enumerate (ea_cons (ev_slice rfl (ev_see 0) eo_none (eo_some (see (ev_neg (see ev_int))))) ea_nil)) (eg_tup rfl rfl (egs_cons (eg_name 3 sc_q_greatest.nd) (egs_cons (eg_name 4 sc_q_greatest.nd) egs_nil)))
    (ess_box (et_cons (es_asg (ev_tup (ea_cons (ev_call (ok_q_two T) hg (hr.mono (by decide)) (by rfl) T.q_two.gl T.q_two.fn.kp T.q_two.bd pass00 (ea_cons (ev_var 3) ea_nil)) (ea_cons ev_dnew ea_nil))) (eg_tup rfl rfl (egs_cons (eg_name 2 sc_q_greatest.nd) (egs_cons (eg_name 6 sc_q_greatest.nd) egs_nil))))
    (et_cons (es_forItems (i := 1) PassesOwn.never rfl (ei_keys) (eg_name 5 sc_q_greatest.nd)
    (et_one (es_for PassesOwn.never rfl (ei_seq rfl (ev_tup (ea_cons ev_int (ea_cons ev_int ea_nil)))) (eg_name 7 sc_q_greatest.nd)
    (et_cons (es_set sc_q_greatest.nd (ev_add rfl (see (ev_dget hr (ev_var 1) (ev_var 5) (fun _ _ => rfl))) (see (ev_mul (ev_see 2) (see (ev_sub (see ev_int) (ev_see 7)))))))
    (et_cons (es_set sc_q_greatest.nd (ev_add rfl (see (ev_dget hr (ev_var 1) (ev_var 5) (fun _ _ => rfl))) (see (ev_mul (ev_see 2) (ev_see 7)))))
    (et_cons (es_set sc_q_greatest.nd (ev_add rfl (ev_see 5) (see (ev_fdiv (see (ev_blt (b_max rfl rfl) (by rfl) T.n_max bt_max (es_cons (see ev_int) (es_cons (see (ev_add rfl (see (ev_sub (see (ev_sub (ev_see 4) (see ev_int))) (ev_see 8))) (see (ev_mul (see ev_int) (ev_see 2))))) es_nil)))) (see (ev_mul (see ev_int) (ev_see 2)))))))
    (et_one (es_dput hr (ev_blt (b_min rfl rfl) (by rfl) T.n_min bt_min (es_cons (ev_see 9) (es_cons (see (ev_dget2 hr (ev_var 6) (ev_var 10) (ev_var 9) ⟨by rfl, by rfl, by rfl, by rfl⟩)) es_nil))) (ev_var 6) (ev_var 10) (by rfl)))))))))
    (et_one (es_set sc_q_greatest.nd (ev_var 6)))))))
    (et_cons (es_set sc_q_greatest.nd (ev_call (ok_q_two T) hg (hr.mono (by decide)) (by rfl) T.q_two.gl T.q_two.fn.kp T.q_two.bd pass00 (ea_cons (ev_sub (see (ev_blt (b_len rfl) (by rfl) T.n_len bt_len (es_cons (ev_see 0) es_nil))) (see ev_int)) ea_nil)))
    (et_one (es_ret (ev_blt (b_max rfl rfl) (by rfl) T.n_max bt_max (es_cons (see (ev_val (ev_lcItems (i := 1) (own := [("_law_count_here", 5)]) rfl sc_q_greatest.nd (ei_keys) (blkOk_by (N := ["_law_lives_here", "_law_ends", "_law_size", "_law_index", "_law_life", "_law_count_here", "_law_later", "_law_digit", "_law_young", "_law_end", "_law_many"]) (sc := defScope t_q_greatest) (by decide +kernel)) (fun _ _ _ _ _ => (eg_name 5 sc_q_greatest.nd)) (fun _ _ _ _ _ => epts_nil) (fun _ _ _ _ _ => (ev_add rfl (ev_see 5) (see (ev_fdiv (see (ev_blt (b_max rfl rfl) (by rfl) T.n_max bt_max (es_cons (see ev_int) (es_cons (see (ev_add rfl (see (ev_sub (see (ev_sub (see (ev_ix rfl (ev_see 0) (see (ev_neg (see ev_int))))) (see ev_int))) (see (ev_dget hr (ev_var 1) (ev_var 5) (fun _ _ => rfl))))) (ev_see 2))) es_nil)))) (ev_see 2)))))))) es_nil)))))))
theorem ok_q_shortv : FnG P w W.K mg base CX0 1 T.q_shortv.f T.q_shortv.fd ["_law_lives_here"] (spEv W 1 q_shortv) :=
  fn_ev T.q_shortv.fn sc_q_shortv rfl rfl fun cdv A out s H E hg hr =>
    (et_cons (es_set sc_q_shortv.nd (ev_ty (b_tuple rfl) (by rfl) T.n_tuple bt_tuple (es_cons (ev_see 0) es_nil)))
    (et_cons (es_while 100000 PassesOwn.never (PW.pt (evw_and (ev_cmpT c_gt (see (ev_blt (b_len rfl) (by rfl) T.n_len bt_len (es_cons (ev_see 0) es_nil))) (see ev_int)) (evw_and1 (ev_cmpT (c_eqP rfl hr.units) (see (ev_ix rfl (ev_see 0) (see (ev_neg (see ev_int))))) (see (ev_ix rfl (ev_see 0) (see (ev_neg (see ev_int)))))))))
    (et_one (es_set sc_q_shortv.nd (ev_slice rfl (ev_see 0) eo_none (eo_some (see (ev_neg (see ev_int))))))))
    (et_one (es_ret (ev_var 0)))))
theorem ok_q_rule_right : FnG P w W.K mg base CX0 6 T.q_rule_right.f T.q_rule_right.fd ["_law_pot_here", "_law_lives_here", "_law_is_small"] (spEv W 3 q_rule_right) :=
  fn_ev T.q_rule_right.fn sc_q_rule_right rfl rfl fun cdv A out s H E hg hr =>
    (et_cons (es_set sc_q_rule_right.nd (ev_call (ok_p_most T) hg (hr.mono (by decide)) (by rfl) T.p_most.gl T.p_most.fn.kp T.p_most.bd pass00 (ea_cons (ev_cmeth (pl := _) (ev_cls (c := 0) (by rfl) T.g0) T.c0.cr T.r_p_Rule_of ((ok_p_Rule_of T).pos0 T.b_p_Rule_of) hg (hr.mono (by decide)) pass00 (ea_cons (ev_var 1) ea_nil)) ea_nil)))
    (et_cons (es_if (ev_cmpT c_isN (see (ev_ix rfl (ev_see 1) (see (ev_neg (see ev_int))))) (see ev_non))
    (et_one (es_ret (ev_cmp c_isN (ev_see 3) (see ev_non))))
    et_nil)
    (et_cons (es_if (PW.pt (evw_or (evt_not (ev_test (ev_isi (x := "isinstance") (y := "tuple") rfl (by rfl) rfl T.n_isinstance (by rfl) T.n_tuple bt_isinstance bt_tuple (ev_var 3)))) (evw_or1 (ev_cmpT (c_neP rfl hr.units) (see (ev_blt (b_len rfl) (by rfl) T.n_len bt_len (es_cons (ev_see 3) es_nil))) (see ev_int)))))
    (et_one (es_ret ev_bl))
    et_nil)
    (et_cons (es_asg (ev_var 3) (eg_tup rfl rfl (egs_cons (eg_name 7 sc_q_rule_right.nd) (egs_cons (eg_name 8 sc_q_rule_right.nd) egs_nil))))
    (et_cons (es_if (PW.pt (evw_or (ev_cmpT (c_neP rfl hr.units) (see (ev_blt (b_repr rfl hg hr.units) (by rfl) T.n_repr bt_repr (es_cons (ev_see 3) es_nil))) (see (ev_blt (b_repr rfl hg hr.units) (by rfl) T.n_repr bt_repr (es_cons (see (ev_tup (ea_cons (ev_ty t_int (by rfl) T.n_int bt_int (es_cons (ev_see 7) es_nil)) (ea_cons (ev_ty t_int (by rfl) T.n_int bt_int (es_cons (ev_see 8) es_nil)) ea_nil)))) es_nil)))) (evw_or (ev_cmpT c_lt (ev_see 8) (see ev_int)) (evw_or1 (ev_cmpT (c_neP rfl hr.units) (see (ev_call (ok_q_count T) hg (hr.mono (by decide)) (by rfl) T.q_count.gl T.q_count.fn.kp T.q_count.bd pass00 (ea_cons (ev_var 1) (ea_cons (ev_var 8) ea_nil)))) (ev_see 7))))))
    (et_one (es_ret ev_bl))
    et_nil)
    (et_cons (es_set sc_q_rule_right.nd (ev_ix rfl (ev_see 1) (see (ev_neg (see ev_int)))))
    (et_cons (es_own sc_q_rule_right.nd (ev_ifF (ev_test (ev_var 2)) (ev_lc (own := [("_law_more", 9)]) rfl sc_q_rule_right.nd (ei_range1 (by rfl) T.n_range (es_cons (see (ev_call (ok_q_two T) hg (hr.mono (by decide)) (by rfl) T.q_two.gl T.q_two.fn.kp T.q_two.bd pass00 (ea_cons (ev_sub (see (ev_blt (b_len rfl) (by rfl) T.n_len bt_len (es_cons (ev_see 1) es_nil))) (see ev_int)) ea_nil))) es_nil)) (blkOk_by (N := ["_law_pot_here", "_law_lives_here", "_law_is_small", "_law_told", "_law_begin", "_law_times", "_law_turn", "_law_count_here", "_law_time", "_law_more", "_law_one"]) (sc := defScope t_q_rule_right) (by decide +kernel)) (fun _ _ _ _ _ => (eg_name 9 sc_q_rule_right.nd)) (fun _ _ _ _ _ => epts_nil) (fun _ _ _ _ _ => (ev_add rfl (ev_see 4) (ev_see 9)))) (ev_tupF ea_nil)))
    (et_cons (es_for PassesOwn.never rfl (ei_range1 (by rfl) T.n_range (es_cons (see ev_int) es_nil)) (eg_name 6 sc_q_rule_right.nd)
    (et_one (es_append (pe_bm PySem.F.plainAttrs_list PySem.F.slot_list_append PySem.F.type_list_append mt_append (pv 5) (pa_cons (ev_add rfl (ev_see 4) (see (ev_call (ok_q_takev T) hg (hr.mono (by decide)) (by rfl) T.q_takev.gl T.q_takev.fn.kp T.q_takev.bd pass00 (ea_cons (ev_var 0) (ea_cons (ev_con (ev_pow (see ev_int) (see ev_int)) (fun _ _ => by with_unfolding_all rfl)) ea_nil))))) pa_nil)))))
    (et_cons (es_frz 5 (es_if (evt_not (ev_test (ev_blt (b_all rfl rfl) (by rfl) T.n_all bt_all (es_cons (see (ev_val (ev_lc (own := [("_law_one", 10)]) rfl sc_q_rule_right.nd (ei_seq rfl (ev_var 5)) (blkOk_by (N := ["_law_pot_here", "_law_lives_here", "_law_is_small", "_law_told", "_law_begin", "_law_times", "_law_turn", "_law_count_here", "_law_time", "_law_more", "_law_one"]) (sc := defScope t_q_rule_right) (by decide +kernel)) (fun _ _ _ _ _ => (eg_name 10 sc_q_rule_right.nd)) (fun _ _ _ _ _ => epts_nil) (fun _ _ _ _ _ => (ev_cmp c_le (see (ev_call (ok_q_count T) hg (hr.mono (by decide)) (by rfl) T.q_count.gl T.q_count.fn.kp T.q_count.bd pass00 (ea_cons (ev_var 1) (ea_cons (ev_var 10) ea_nil)))) (ev_see 7)))))) es_nil))))
    (et_one (es_ret ev_bl))
    et_nil))
    (et_cons (es_if (evt_not (ev_test (ev_var 2)))
    (et_one (es_ret (ev_cmp (c_eqP rfl hr.units) (ev_see 7) (see (ev_call (ok_q_greatest T) hg (hr.mono (by decide)) (by rfl) T.q_greatest.gl T.q_greatest.fn.kp T.q_greatest.bd pass00 (ea_cons (ev_call (ok_q_shortv T) hg (hr.mono (by decide)) (by rfl) T.q_shortv.gl T.q_shortv.fn.kp T.q_shortv.bd pass00 (ea_cons (ev_var 1) ea_nil)) ea_nil))))))
    et_nil)
    (et_one (es_ret (ev_in rfl (ev_see 7) (see (ev_val (ev_lc (own := [("_law_one", 10)]) rfl sc_q_rule_right.nd (ei_seq rfl (ev_var 5)) (blkOk_by (N := ["_law_pot_here", "_law_lives_here", "_law_is_small", "_law_told", "_law_begin", "_law_times", "_law_turn", "_law_count_here", "_law_time", "_law_more", "_law_one"]) (sc := defScope t_q_rule_right) (by decide +kernel)) (fun _ _ _ _ _ => (eg_name 10 sc_q_rule_right.nd)) (fun _ _ _ _ _ => epts_nil) (fun _ _ _ _ _ => (ev_call (ok_q_count T) hg (hr.mono (by decide)) (by rfl) T.q_count.gl T.q_count.fn.kp T.q_count.bd pass00 (ea_cons (ev_var 1) (ea_cons (ev_var 10) ea_nil))))))))))))))))))))
theorem ok_q_ended : FnG P w W.K mg base CX0 2 T.q_ended.f T.q_ended.fd ["_law_pot_here", "_law_lives_here"] (spEv W 2 q_ended) :=
  fn_ev T.q_ended.fn sc_q_ended rfl rfl fun cdv A out s H E hg hr =>
    (et_one (es_ret (ev_if (ev_cmpT (c_eqP rfl hr.units) (see (ev_call (ok_q_takev T) hg (hr.mono (by decide)) (by rfl) T.q_takev.gl T.q_takev.fn.kp T.q_takev.bd pass00 (ea_cons (ev_var 0) (ea_cons ev_int ea_nil)))) (see ev_int)) (ev_add rfl (see (ev_slice rfl (ev_see 1) eo_none (eo_some (see (ev_neg (see ev_int)))))) (see (ev_tup (ea_cons ev_non ea_nil)))) (ev_var 1))))
theorem ok_q_of : FnG P w W.K mg base CX0 2 T.q_of.f T.q_of.fd ["_law_pot_here", "_law_some"] (spEv W 2 q_of) :=
  fn_ev T.q_of.fn sc_q_of rfl rfl fun cdv A out s H E hg hr =>
    (et_one (es_ret (ev_ix rfl (ev_see 1) (see (ev_call (ok_q_takev T) hg (hr.mono (by decide)) (by rfl) T.q_takev.gl T.q_takev.fn.kp T.q_takev.bd pass00 (ea_cons (ev_var 0) (ea_cons (ev_blt (b_len rfl) (by rfl) T.n_len bt_len (es_cons (ev_see 1) es_nil)) ea_nil)))))))
theorem ok_q_lives : FnG P w W.K mg base CX0 3 T.q_lives.f T.q_lives.fd ["_law_pot_here", "_law_many", "_law_great"] (spEv W 3 q_lives) :=
  fn_ev T.q_lives.fn sc_q_lives rfl rfl fun cdv A out s H E hg hr =>
    (et_cons (es_parF rfl sc_q_lives.nd (ev_tupF ea_nil) (ev_call (ok_q_of T) hg (hr.mono (by decide)) (by rfl) T.q_of.gl T.q_of.fn.kp T.q_of.bd pass00 (ea_cons (ev_var 0) (ea_cons (ev_val (ev_tupF (ea_cons ev_int (ea_cons ev_int (ea_cons ev_int (ea_cons (ev_call (ok_q_takev T) hg (hr.mono (by decide)) (by rfl) T.q_takev.gl T.q_takev.fn.kp T.q_takev.bd pass00 (ea_cons (ev_var 0) (ea_cons (ev_add rfl (ev_see 2) (see ev_int)) ea_nil))) ea_nil)))))) ea_nil))))
    (et_cons (es_for PassesOwn.never rfl (ei_range1 (by rfl) T.n_range (es_cons (ev_see 1) es_nil)) (eg_name 3 sc_q_lives.nd)
    (et_cons (es_set sc_q_lives.nd (ev_call (ok_q_two T) hg (hr.mono (by decide)) (by rfl) T.q_two.gl T.q_two.fn.kp T.q_two.bd pass00 (ea_cons (ev_var 3) ea_nil)))
    (et_cons (es_set sc_q_lives.nd (ev_call (ok_q_of T) hg (hr.mono (by decide)) (by rfl) T.q_of.gl T.q_of.fn.kp T.q_of.bd pass00 (ea_cons (ev_var 0) (ea_cons (ev_val (ev_tupF (ea_cons ev_int (ea_cons ev_int (ea_cons ev_int (ea_cons (ev_var 6) (ea_cons (ev_call (ok_q_takev T) hg (hr.mono (by decide)) (by rfl) T.q_takev.gl T.q_takev.fn.kp T.q_takev.bd pass00 (ea_cons (ev_var 0) (ea_cons (ev_add rfl (ev_see 2) (see ev_int)) ea_nil))) (ea_cons (ev_add rfl (ev_see 6) (see (ev_call (ok_q_takev T) hg (hr.mono (by decide)) (by rfl) T.q_takev.gl T.q_takev.fn.kp T.q_takev.bd pass00 (ea_cons (ev_var 0) (ea_cons (ev_add rfl (ev_see 2) (see ev_int)) ea_nil))))) ea_nil)))))))) ea_nil))))
    (et_cons (es_set sc_q_lives.nd (ev_blt (b_min rfl rfl) (by rfl) T.n_min bt_min (es_cons (see (ev_add rfl (ev_see 5) (ev_see 7))) (es_cons (see (ev_con (ev_pow (see ev_int) (see ev_int)) (fun _ _ => by with_unfolding_all rfl))) es_nil))))
    (et_one (es_append (pe_bm PySem.F.plainAttrs_list PySem.F.slot_list_append PySem.F.type_list_append mt_append (pv 4) (pa_cons (ev_var 5) pa_nil))))))))
    (et_one (es_ret (ev_ty (b_tuple rfl) (by rfl) T.n_tuple bt_tuple (es_cons (ev_see 4) es_nil))))))
theorem ok_q_low_lives : FnG P w W.K mg base CX0 3 T.q_low_lives.f T.q_low_lives.fd ["_law_pot_here"] (spEv W 1 q_low_lives) :=
  fn_ev T.q_low_lives.fn sc_q_low_lives rfl rfl fun cdv A out s H E hg hr =>
    (et_cons (es_parF rfl sc_q_low_lives.nd (ev_tupF ea_nil) ev_int)
    (et_cons (es_for PassesOwn.never rfl (ei_range1 (by rfl) T.n_range (es_cons (see (ev_add rfl (see ev_int) (see (ev_call (ok_q_takev T) hg (hr.mono (by decide)) (by rfl) T.q_takev.gl T.q_takev.fn.kp T.q_takev.bd pass00 (ea_cons (ev_var 0) (ea_cons ev_int ea_nil)))))) es_nil)) (eg_name 1 sc_q_low_lives.nd)
    (et_cons (es_set sc_q_low_lives.nd (ev_add rfl (ev_see 3) (see (ev_call (ok_q_of T) hg (hr.mono (by decide)) (by rfl) T.q_of.gl T.q_of.fn.kp T.q_of.bd pass00 (ea_cons (ev_var 0) (ea_cons (ev_val (ev_tupF (ea_cons ev_int (ea_cons ev_int (ea_cons ev_int (ea_cons ev_int (ea_cons ev_int (ea_cons ev_int ea_nil)))))))) ea_nil))))))
    (et_one (es_append (pe_bm PySem.F.plainAttrs_list PySem.F.slot_list_append PySem.F.type_list_append mt_append (pv 2) (pa_cons (ev_var 3) pa_nil))))))
    (et_one (es_ret (ev_ty (b_tuple rfl) (by rfl) T.n_tuple bt_tuple (es_cons (ev_see 2) es_nil))))))
theorem ok_q_right : FnG P w W.K mg base CX0 7 T.q_right.f T.q_right.fd ["_law_pot_here"] (spEv W 1 q_right) :=
  fn_ev T.q_right.fn sc_q_right rfl rfl fun cdv A out s H E hg hr =>
    (et_cons (es_for PassesOwn.never rfl (ei_range1 (by rfl) T.n_range (es_cons (see ev_int) es_nil)) (eg_name 1 sc_q_right.nd)
    (et_one (es_if (evt_not (ev_test (ev_call (ok_q_rule_right T) hg (hr.mono (by decide)) (by rfl) T.q_rule_right.gl T.q_rule_right.fn.kp T.q_rule_right.bd pass00 (ea_cons (ev_var 0) (ea_cons (ev_call (ok_q_ended T) hg (hr.mono (by decide)) (by rfl) T.q_ended.gl T.q_ended.fn.kp T.q_ended.bd pass00 (ea_cons (ev_var 0) (ea_cons (ev_call (ok_q_lives T) hg (hr.mono (by decide)) (by rfl) T.q_lives.gl T.q_lives.fn.kp T.q_lives.bd pass00 (ea_cons (ev_var 0) (ea_cons (ev_add rfl (see ev_int) (see (ev_call (ok_q_takev T) hg (hr.mono (by decide)) (by rfl) T.q_takev.gl T.q_takev.fn.kp T.q_takev.bd pass00 (ea_cons (ev_var 0) (ea_cons ev_int ea_nil))))) (ea_cons ev_int ea_nil)))) ea_nil))) (ea_cons ev_bl ea_nil))))))
    (et_one (es_ret ev_bl))
    et_nil)))
    (et_cons (es_if (PW.pt (evw_or (evt_not (ev_test (ev_call (ok_q_rule_right T) hg (hr.mono (by decide)) (by rfl) T.q_rule_right.gl T.q_rule_right.fn.kp T.q_rule_right.bd pass00 (ea_cons (ev_var 0) (ea_cons (ev_call (ok_q_low_lives T) hg (hr.mono (by decide)) (by rfl) T.q_low_lives.gl T.q_low_lives.fn.kp T.q_low_lives.bd pass00 (ea_cons (ev_var 0) ea_nil)) (ea_cons ev_bl ea_nil)))))) (evw_or1 (evt_not (ev_test (ev_call (ok_q_rule_right T) hg (hr.mono (by decide)) (by rfl) T.q_rule_right.gl T.q_rule_right.fn.kp T.q_rule_right.bd pass00 (ea_cons (ev_var 0) (ea_cons (ev_call (ok_q_low_lives T) hg (hr.mono (by decide)) (by rfl) T.q_low_lives.gl T.q_low_lives.fn.kp T.q_low_lives.bd pass00 (ea_cons (ev_var 0) ea_nil)) (ea_cons ev_bl ea_nil)))))))))
    (et_one (es_ret ev_bl))
    et_nil)
    (et_one (es_ret (ev_call (ok_q_rule_right T) hg (hr.mono (by decide)) (by rfl) T.q_rule_right.gl T.q_rule_right.fn.kp T.q_rule_right.bd pass00 (ea_cons (ev_var 0) (ea_cons (ev_call (ok_q_ended T) hg (hr.mono (by decide)) (by rfl) T.q_ended.gl T.q_ended.fn.kp T.q_ended.bd pass00 (ea_cons (ev_var 0) (ea_cons (ev_call (ok_q_lives T) hg (hr.mono (by decide)) (by rfl) T.q_lives.gl T.q_lives.fn.kp T.q_lives.bd pass00 (ea_cons (ev_var 0) (ea_cons (ev_call (ok_q_of T) hg (hr.mono (by decide)) (by rfl) T.q_of.gl T.q_of.fn.kp T.q_of.bd pass00 (ea_cons (ev_var 0) (ea_cons (ev_val (ev_tupF (ea_cons ev_int (ea_cons ev_int ea_nil)))) ea_nil))) (ea_cons (ev_con (ev_pow (see ev_int) (see ev_int)) (fun _ _ => by with_unfolding_all rfl)) ea_nil)))) ea_nil))) (ea_cons ev_bl ea_nil))))))))
theorem ok_q_law : FnG P w W.K mg base CX0 8 T.q_law.f T.q_law.fd ["_law_script"] (spEv W 1 q_law) :=
  fn_ev T.q_law.fn sc_q_law rfl rfl fun cdv A out s H E hg hr =>
    (et_cons (es_for PassesOwn.never rfl (ei_range1 (by rfl) T.n_range (es_cons (see (ev_blt (b_max rfl rfl) (by rfl) T.n_max bt_max (es_cons (see ev_int) (es_cons (see (ev_blt (b_min rfl rfl) (by rfl) T.n_min bt_min (es_cons (see ev_int) (es_cons (see (ev_blt (b_len rfl) (by rfl) T.n_len bt_len (es_cons (ev_see 0) es_nil))) es_nil)))) es_nil)))) es_nil)) (eg_name 1 sc_q_law.nd)
    (et_cons (es_set sc_q_law.nd (ev_call (ok_q_potv T) hg (hr.mono (by decide)) (by rfl) T.q_potv.gl T.q_potv.fn.kp T.q_potv.bd pass00 (ea_cons (ev_var 0) (ea_cons (ev_var 1) ea_nil))))
    (et_one (es_if (evt_not (ev_test (ev_blt (b_all rfl rfl) (by rfl) T.n_all bt_all (es_cons (see (ev_val (ev_lc (own := [("_law_turn", 3)]) rfl sc_q_law.nd (ei_range1 (by rfl) T.n_range (es_cons (see ev_int) es_nil)) (blkOk_by (N := ["_law_script", "_law_k", "_law_pot_here", "_law_turn"]) (sc := defScope t_q_law) (by decide +kernel)) (fun _ _ _ _ _ => (eg_name 3 sc_q_law.nd)) (fun _ _ _ _ _ => epts_nil) (fun _ _ _ _ _ => (ev_call (ok_q_right T) hg (hr.mono (by decide)) (by rfl) T.q_right.gl T.q_right.fn.kp T.q_right.bd pass00 (ea_cons (ev_var 2) ea_nil)))))) es_nil))))
    (et_one (es_ret ev_bl))
    et_nil))))
    (et_one (es_ret ev_bl)))
end
theorem all_mk {l : PySem.W.OpenLaw} {w : World} {K : PySem.W.Frag} {h : Heap} {mg : Str → Option Value} {fa : Addr} (X : K.In h) (G : h.Ns mainGlobals mg) (hfa : mg "law" = some (.ref fa))
    {C0 C1 f0 f1 f2 f3 f4 f5 d5 f6 p6 f7 f8 f9 p9 f10 f11 f12 f13 f14 f15 f16 f17 f18 f19 f20 f21 f22 p22 : Addr}
    (aC0 : PySem.W.nsIn K mainGlobals "Rule" = some (some (.ref C0)))
    (pg0 : PySem.W.plainGet K C0 Str.empty = true)
    (hd0 : PySem.W.hasDictIn K C0 = true)
    (po0 : PySem.W.plainOver K C0 = true)
    (sa0 : PySem.W.findIn K (.ref C0) "__setattr__" = some (some (.builtin "object.__setattr__")))
    (rd0 : PySem.W.readsIn K C0 (.type "type") = true)
    (ga0 : PySem.W.specialIn K (.ref C0) "__getattribute__" = some (some (.builtin "type.__getattribute__")))
    (nh0 : PySem.W.findIn K (.ref C0) "held_lives" = some none)
    (mk0 : PySem.W.makesIn K C0 = true)
    (kc0 : PySem.W.keepIn K (.ref C0) = true)
    (aC1 : PySem.W.nsIn K mainGlobals "LongRule" = some (some (.ref C1)))
    (pg1 : PySem.W.plainGet K C1 Str.empty = true)
    (hd1 : PySem.W.hasDictIn K C1 = true)
    (po1 : PySem.W.plainOver K C1 = true)
    (sa1 : PySem.W.findIn K (.ref C1) "__setattr__" = some (some (.builtin "object.__setattr__")))
    (rd1 : PySem.W.readsIn K C1 (.type "type") = true)
    (ga1 : PySem.W.specialIn K (.ref C1) "__getattribute__" = some (some (.builtin "type.__getattribute__")))
    (nh1 : PySem.W.findIn K (.ref C1) "held_lives" = some none)
    {od0 an0 : Option Addr} {sl0 : Array (Option Value)} {oc0 kV0 dc0 pm0 cd0 ct0 : Value}
    (a0 : PySem.W.nsIn K mainGlobals "_law_pot" = some (some (.ref f0)))
    (l0 : K.lookup f0 = some ⟨oc0, od0, .func (PySem.W.fnOf "_law_pot" "_law_pot" (defArgs t_q_potv) (defBody t_q_potv) (defScope t_q_potv) .none kV0 dc0 pm0 an0 cd0 ct0), sl0⟩)
    (c0 : PySem.W.codeIn K cd0 "_law_pot" = true)
    (k0 : PySem.W.keepIn K (.ref f0) = true)
    {od1 an1 : Option Addr} {sl1 : Array (Option Value)} {oc1 kV1 dc1 pm1 cd1 ct1 : Value}
    (a1 : PySem.W.nsIn K mainGlobals "size_of" = some (some (.ref f1)))
    (l1 : K.lookup f1 = some ⟨oc1, od1, .func (PySem.W.fnOf "size_of" "size_of" (defArgs t_p_size_of) (defBody t_p_size_of) (defScope t_p_size_of) .none kV1 dc1 pm1 an1 cd1 ct1), sl1⟩)
    (c1 : PySem.W.codeIn K cd1 "size_of" = true)
    (k1 : PySem.W.keepIn K (.ref f1) = true)
    {od2 an2 : Option Addr} {sl2 : Array (Option Value)} {oc2 kV2 dc2 pm2 cd2 ct2 : Value}
    (a2 : PySem.W.nsIn K mainGlobals "count_at" = some (some (.ref f2)))
    (l2 : K.lookup f2 = some ⟨oc2, od2, .func (PySem.W.fnOf "count_at" "count_at" (defArgs t_p_count_at) (defBody t_p_count_at) (defScope t_p_count_at) .none kV2 dc2 pm2 an2 cd2 ct2), sl2⟩)
    (c2 : PySem.W.codeIn K cd2 "count_at" = true)
    (k2 : PySem.W.keepIn K (.ref f2) = true)
    {od3 an3 : Option Addr} {sl3 : Array (Option Value)} {oc3 kV3 dc3 pm3 cd3 ct3 : Value}
    (a3 : PySem.W.nsIn K mainGlobals "one_bit_more" = some (some (.ref f3)))
    (l3 : K.lookup f3 = some ⟨oc3, od3, .func (PySem.W.fnOf "one_bit_more" "one_bit_more" (defArgs t_p_one_bit_more) (defBody t_p_one_bit_more) (defScope t_p_one_bit_more) .none kV3 dc3 pm3 an3 cd3 ct3), sl3⟩)
    (c3 : PySem.W.codeIn K cd3 "one_bit_more" = true)
    (k3 : PySem.W.keepIn K (.ref f3) = true)
    {od4 an4 : Option Addr} {sl4 : Array (Option Value)} {oc4 kV4 dc4 pm4 cd4 ct4 : Value}
    (a4 : PySem.W.nsIn K mainGlobals "most" = some (some (.ref f4)))
    (l4 : K.lookup f4 = some ⟨oc4, od4, .func (PySem.W.fnOf "most" "most" (defArgs t_p_most) (defBody t_p_most) (defScope t_p_most) .none kV4 dc4 pm4 an4 cd4 ct4), sl4⟩)
    (c4 : PySem.W.codeIn K cd4 "most" = true)
    (k4 : PySem.W.keepIn K (.ref f4) = true)
    {od5 an5 : Option Addr} {sl5 : Array (Option Value)} {oc5 kV5 dc5 pm5 cd5 ct5 : Value}
    (a5 : PySem.W.nsIn K mainGlobals "is_integer" = some (some (.ref f5)))
    (l5 : K.lookup f5 = some ⟨oc5, od5, .func (PySem.W.fnOf "is_integer" "is_integer" (defArgs t_p_is_integer) (defBody t_p_is_integer) (defScope t_p_is_integer) (.ref d5) kV5 dc5 pm5 an5 cd5 ct5), sl5⟩)
    {td5 : Option Addr} {ts5 : Array (Option Value)} {tc5 : Value} {tn5 : Nat}
    (t5 : K.lookup d5 = some ⟨tc5, td5, .seq #[Value.none] tn5, ts5⟩)
    (c5 : PySem.W.codeIn K cd5 "is_integer" = true)
    (k5 : PySem.W.keepIn K (.ref f5) = true)
    {od6 an6 : Option Addr} {sl6 : Array (Option Value)} {oc6 kV6 dc6 pm6 cd6 ct6 : Value}
    {rs6 : List Value}
    (a6 : PySem.W.findCls K (.ref C0) (.type "type") "are_lives" = some (.get (.builtin "staticmethod.__get__") (.ref p6) .none (.ref C0)))
    (r6 : PySem.W.recIn K p6 "staticmethod" = some (.ref f6 :: rs6))
    (l6 : K.lookup f6 = some ⟨oc6, od6, .func (PySem.W.fnOf "are_lives" "Rule.are_lives" (defArgs t_p_Rule_are_lives) (defBody t_p_Rule_are_lives) (defScope t_p_Rule_are_lives) .none kV6 dc6 pm6 an6 cd6 ct6), sl6⟩)
    (c6 : PySem.W.codeIn K cd6 "Rule.are_lives" = true)
    (k6 : PySem.W.keepIn K (.ref f6) = true)
    {od7 an7 : Option Addr} {sl7 : Array (Option Value)} {oc7 kV7 dc7 pm7 cd7 ct7 : Value}
    (a7 : PySem.W.nsIn K mainGlobals "shortest" = some (some (.ref f7)))
    (l7 : K.lookup f7 = some ⟨oc7, od7, .func (PySem.W.fnOf "shortest" "shortest" (defArgs t_p_shortest) (defBody t_p_shortest) (defScope t_p_shortest) .none kV7 dc7 pm7 an7 cd7 ct7), sl7⟩)
    (c7 : PySem.W.codeIn K cd7 "shortest" = true)
    (k7 : PySem.W.keepIn K (.ref f7) = true)
    {od8 an8 : Option Addr} {sl8 : Array (Option Value)} {oc8 kV8 dc8 pm8 cd8 ct8 : Value}
    (a8 : PySem.W.findIn K (.ref C0) "__init__" = some (some (.ref f8)))
    (i8 : PySem.W.isFn K (.ref f8) = true)
    (l8 : K.lookup f8 = some ⟨oc8, od8, .func (PySem.W.fnOf "__init__" "Rule.__init__" (defArgs t_p_Rule_init) (defBody t_p_Rule_init) (defScope t_p_Rule_init) .none kV8 dc8 pm8 an8 cd8 ct8), sl8⟩)
    (c8 : PySem.W.codeIn K cd8 "Rule.__init__" = true)
    (k8 : PySem.W.keepIn K (.ref f8) = true)
    {od9 an9 : Option Addr} {sl9 : Array (Option Value)} {oc9 kV9 dc9 pm9 cd9 ct9 : Value}
    {rs9 : List Value}
    (a9 : PySem.W.findCls K (.ref C0) (.type "type") "of" = some (.get (.builtin "classmethod.__get__") (.ref p9) .none (.ref C0)))
    (r9 : PySem.W.recIn K p9 "classmethod" = some (.ref f9 :: rs9))
    (i9 : PySem.W.fnIn K f9 = true)
    (l9 : K.lookup f9 = some ⟨oc9, od9, .func (PySem.W.fnOf "of" "Rule.of" (defArgs t_p_Rule_of) (defBody t_p_Rule_of) (defScope t_p_Rule_of) .none kV9 dc9 pm9 an9 cd9 ct9), sl9⟩)
    (c9 : PySem.W.codeIn K cd9 "Rule.of" = true)
    (k9 : PySem.W.keepIn K (.ref f9) = true)
    {od10 an10 : Option Addr} {sl10 : Array (Option Value)} {oc10 kV10 dc10 pm10 cd10 ct10 : Value}
    (a10 : PySem.W.nsIn K mainGlobals "_law_two" = some (some (.ref f10)))
    (l10 : K.lookup f10 = some ⟨oc10, od10, .func (PySem.W.fnOf "_law_two" "_law_two" (defArgs t_q_two) (defBody t_q_two) (defScope t_q_two) .none kV10 dc10 pm10 an10 cd10 ct10), sl10⟩)
    (c10 : PySem.W.codeIn K cd10 "_law_two" = true)
    (k10 : PySem.W.keepIn K (.ref f10) = true)
    {od11 an11 : Option Addr} {sl11 : Array (Option Value)} {oc11 kV11 dc11 pm11 cd11 ct11 : Value}
    (a11 : PySem.W.nsIn K mainGlobals "_law_count" = some (some (.ref f11)))
    (l11 : K.lookup f11 = some ⟨oc11, od11, .func (PySem.W.fnOf "_law_count" "_law_count" (defArgs t_q_count) (defBody t_q_count) (defScope t_q_count) .none kV11 dc11 pm11 an11 cd11 ct11), sl11⟩)
    (c11 : PySem.W.codeIn K cd11 "_law_count" = true)
    (k11 : PySem.W.keepIn K (.ref f11) = true)
    {od12 an12 : Option Addr} {sl12 : Array (Option Value)} {oc12 kV12 dc12 pm12 cd12 ct12 : Value}
    (a12 : PySem.W.nsIn K mainGlobals "_law_take" = some (some (.ref f12)))
    (l12 : K.lookup f12 = some ⟨oc12, od12, .func (PySem.W.fnOf "_law_take" "_law_take" (defArgs t_q_takev) (defBody t_q_takev) (defScope t_q_takev) .none kV12 dc12 pm12 an12 cd12 ct12), sl12⟩)
    (c12 : PySem.W.codeIn K cd12 "_law_take" = true)
    (k12 : PySem.W.keepIn K (.ref f12) = true)
    {od13 an13 : Option Addr} {sl13 : Array (Option Value)} {oc13 kV13 dc13 pm13 cd13 ct13 : Value}
    (a13 : PySem.W.nsIn K mainGlobals "_law_greatest" = some (some (.ref f13)))
    (l13 : K.lookup f13 = some ⟨oc13, od13, .func (PySem.W.fnOf "_law_greatest" "_law_greatest" (defArgs t_q_greatest) (defBody t_q_greatest) (defScope t_q_greatest) .none kV13 dc13 pm13 an13 cd13 ct13), sl13⟩)
    (c13 : PySem.W.codeIn K cd13 "_law_greatest" = true)
    (k13 : PySem.W.keepIn K (.ref f13) = true)
    {od14 an14 : Option Addr} {sl14 : Array (Option Value)} {oc14 kV14 dc14 pm14 cd14 ct14 : Value}
    (a14 : PySem.W.nsIn K mainGlobals "_law_short" = some (some (.ref f14)))
    (l14 : K.lookup f14 = some ⟨oc14, od14, .func (PySem.W.fnOf "_law_short" "_law_short" (defArgs t_q_shortv) (defBody t_q_shortv) (defScope t_q_shortv) .none kV14 dc14 pm14 an14 cd14 ct14), sl14⟩)
    (c14 : PySem.W.codeIn K cd14 "_law_short" = true)
    (k14 : PySem.W.keepIn K (.ref f14) = true)
    {od15 an15 : Option Addr} {sl15 : Array (Option Value)} {oc15 kV15 dc15 pm15 cd15 ct15 : Value}
    (a15 : PySem.W.nsIn K mainGlobals "_law_rule_right" = some (some (.ref f15)))
    (l15 : K.lookup f15 = some ⟨oc15, od15, .func (PySem.W.fnOf "_law_rule_right" "_law_rule_right" (defArgs t_q_rule_right) (defBody t_q_rule_right) (defScope t_q_rule_right) .none kV15 dc15 pm15 an15 cd15 ct15), sl15⟩)
    (c15 : PySem.W.codeIn K cd15 "_law_rule_right" = true)
    (k15 : PySem.W.keepIn K (.ref f15) = true)
    {od16 an16 : Option Addr} {sl16 : Array (Option Value)} {oc16 kV16 dc16 pm16 cd16 ct16 : Value}
    (a16 : PySem.W.nsIn K mainGlobals "_law_ended" = some (some (.ref f16)))
    (l16 : K.lookup f16 = some ⟨oc16, od16, .func (PySem.W.fnOf "_law_ended" "_law_ended" (defArgs t_q_ended) (defBody t_q_ended) (defScope t_q_ended) .none kV16 dc16 pm16 an16 cd16 ct16), sl16⟩)
    (c16 : PySem.W.codeIn K cd16 "_law_ended" = true)
    (k16 : PySem.W.keepIn K (.ref f16) = true)
    {od17 an17 : Option Addr} {sl17 : Array (Option Value)} {oc17 kV17 dc17 pm17 cd17 ct17 : Value}
    (a17 : PySem.W.nsIn K mainGlobals "_law_of" = some (some (.ref f17)))
    (l17 : K.lookup f17 = some ⟨oc17, od17, .func (PySem.W.fnOf "_law_of" "_law_of" (defArgs t_q_of) (defBody t_q_of) (defScope t_q_of) .none kV17 dc17 pm17 an17 cd17 ct17), sl17⟩)
    (c17 : PySem.W.codeIn K cd17 "_law_of" = true)
    (k17 : PySem.W.keepIn K (.ref f17) = true)
    {od18 an18 : Option Addr} {sl18 : Array (Option Value)} {oc18 kV18 dc18 pm18 cd18 ct18 : Value}
    (a18 : PySem.W.nsIn K mainGlobals "_law_lives" = some (some (.ref f18)))
    (l18 : K.lookup f18 = some ⟨oc18, od18, .func (PySem.W.fnOf "_law_lives" "_law_lives" (defArgs t_q_lives) (defBody t_q_lives) (defScope t_q_lives) .none kV18 dc18 pm18 an18 cd18 ct18), sl18⟩)
    (c18 : PySem.W.codeIn K cd18 "_law_lives" = true)
    (k18 : PySem.W.keepIn K (.ref f18) = true)
    {od19 an19 : Option Addr} {sl19 : Array (Option Value)} {oc19 kV19 dc19 pm19 cd19 ct19 : Value}
    (a19 : PySem.W.nsIn K mainGlobals "_law_low_lives" = some (some (.ref f19)))
    (l19 : K.lookup f19 = some ⟨oc19, od19, .func (PySem.W.fnOf "_law_low_lives" "_law_low_lives" (defArgs t_q_low_lives) (defBody t_q_low_lives) (defScope t_q_low_lives) .none kV19 dc19 pm19 an19 cd19 ct19), sl19⟩)
    (c19 : PySem.W.codeIn K cd19 "_law_low_lives" = true)
    (k19 : PySem.W.keepIn K (.ref f19) = true)
    {od20 an20 : Option Addr} {sl20 : Array (Option Value)} {oc20 kV20 dc20 pm20 cd20 ct20 : Value}
    (a20 : PySem.W.nsIn K mainGlobals "_law_right" = some (some (.ref f20)))
    (l20 : K.lookup f20 = some ⟨oc20, od20, .func (PySem.W.fnOf "_law_right" "_law_right" (defArgs t_q_right) (defBody t_q_right) (defScope t_q_right) .none kV20 dc20 pm20 an20 cd20 ct20), sl20⟩)
    (c20 : PySem.W.codeIn K cd20 "_law_right" = true)
    (k20 : PySem.W.keepIn K (.ref f20) = true)
    {od21 an21 : Option Addr} {sl21 : Array (Option Value)} {oc21 kV21 dc21 pm21 cd21 ct21 : Value}
    (a21 : PySem.W.nsIn K mainGlobals "law" = some (some (.ref f21)))
    (l21 : K.lookup f21 = some ⟨oc21, od21, .func (PySem.W.fnOf "law" "law" (defArgs t_q_law) (defBody t_q_law) (defScope t_q_law) .none kV21 dc21 pm21 an21 cd21 ct21), sl21⟩)
    (c21 : PySem.W.codeIn K cd21 "law" = true)
    (k21 : PySem.W.keepIn K (.ref f21) = true)
    {od22 an22 : Option Addr} {sl22 : Array (Option Value)} {oc22 kV22 dc22 pm22 cd22 ct22 : Value}
    {rs22 : List Value}
    (a22_0 : PySem.W.findIn K (.ref C0) "lives" = some (some (.ref p22)))
    (a22_1 : PySem.W.findIn K (.ref C1) "lives" = some (some (.ref p22)))
    (s22 : PySem.W.specialIn K (.ref p22) "__get__" = some (some (.builtin "property.__get__")))
    (t22 : PySem.W.takesIn K (.ref p22) = some true)
    (r22 : PySem.W.recIn K p22 "property" = some (.ref f22 :: rs22))
    (l22 : K.lookup f22 = some ⟨oc22, od22, .func (PySem.W.fnOf "lives" "Rule.lives" (defArgs t_p_Rule_lives) (defBody t_p_Rule_lives) (defScope t_p_Rule_lives) .none kV22 dc22 pm22 an22 cd22 ct22), sl22⟩)
    (c22 : PySem.W.codeIn K cd22 "Rule.lives" = true)
    (k22 : PySem.W.keepIn K (.ref f22) = true)
    {u_MOST_COUNT : Tok}
    (x_MOST_COUNT : PySem.W.nsIn K mainGlobals "MOST_COUNT" = some (some (.int 61 u_MOST_COUNT)))
    {u_MOST_LIFE : Tok}
    (x_MOST_LIFE : PySem.W.nsIn K mainGlobals "MOST_LIFE" = some (some (.int 1000000000000000000 u_MOST_LIFE)))
    (z_abs : PySem.W.nsIn K mainGlobals "abs" = some none)
    (z_all : PySem.W.nsIn K mainGlobals "all" = some none)
    (z_bool : PySem.W.nsIn K mainGlobals "bool" = some none)
    (z_enumerate : PySem.W.nsIn K mainGlobals "enumerate" = some none)
    (z_int : PySem.W.nsIn K mainGlobals "int" = some none)
    (z_isinstance : PySem.W.nsIn K mainGlobals "isinstance" = some none)
    (z_len : PySem.W.nsIn K mainGlobals "len" = some none)
    (z_max : PySem.W.nsIn K mainGlobals "max" = some none)
    (z_min : PySem.W.nsIn K mainGlobals "min" = some none)
    (z_range : PySem.W.nsIn K mainGlobals "range" = some none)
    (z_repr : PySem.W.nsIn K mainGlobals "repr" = some none)
    (z_tuple : PySem.W.nsIn K mainGlobals "tuple" = some none)
    (z_zip : PySem.W.nsIn K mainGlobals "zip" = some none)
    : ∃ (W : Wd) (fd : FuncData), W.K.In h ∧ (∀ (s : Shared) (v : Value), BindsTo s fd ⟨[v], []⟩ [("_law_script", v)]) ∧ ∀ base : Heap, W.K.In base → base.Ns mainGlobals mg → FnG l.prog w W.K mg base CX0 8 fa fd ["_law_script"] (spEv W 1 q_law) := by
  have e := hfa.symm.trans (PySem.W.mg_of X G a21)
  cases e
  have F0 := fun_mk (st := t_q_potv) l0 c0 k0
  have b0 := F0.binds (ps := ["_law_script", "_law_k"]) fun _ _ _ _ _ _ us hl => match us, hl with | [_, _], _ => rfl
  have F1 := fun_mk (st := t_p_size_of) l1 c1 k1
  have b1 := F1.binds (ps := ["rank"]) fun _ _ _ _ _ _ us hl => match us, hl with | [_], _ => rfl
  have F2 := fun_mk (st := t_p_count_at) l2 c2 k2
  have b2 := F2.binds (ps := ["life", "young", "gap"]) fun _ _ _ _ _ _ us hl => match us, hl with | [_, _, _], _ => rfl
  have F3 := fun_mk (st := t_p_one_bit_more) l3 c3 k3
  have b3 := F3.binds (ps := ["known", "life", "index"]) fun _ _ _ _ _ _ us hl => match us, hl with | [_, _, _], _ => rfl
  have F4 := fun_mk (st := t_p_most) l4 c4 k4
  have b4 := F4.binds (ps := ["rule"]) fun _ _ _ _ _ _ us hl => match us, hl with | [_], _ => rfl
  have F5 : FunD K "is_integer" "is_integer" (defArgs t_p_is_integer) (defBody t_p_is_integer) (defScope t_p_is_integer) [V.non] [] f5 _ := ⟨⟨_, _, _, _, _, _, _, _, _, _, rfl, l5, c5, .inr ⟨by simp, d5, _, [Value.none], _, rfl, t5, rfl, .cons rfl .nil⟩, .inl rfl⟩, k5⟩
  have b5 := F5.binds1 (ps := ["value", "high"]) 2 1 (by simp) (by decide) fun _ _ _ _ _ _ _ us its h1 h2 => match us, its, h1, h2 with | [_, _], [_], _, _ => ⟨_, rfl, rfl⟩
  have e5 := F5.binds1 (ps := ["value", "high"]) 1 0 (by simp) (by decide) fun _ _ _ _ _ _ _ us its h1 h2 => match us, its, h1, h2 with | [_], [_], _, _ => ⟨_, rfl, rfl⟩
  have F6 := fun_mk (st := t_p_Rule_are_lives) l6 c6 k6
  have b6 := F6.binds (ps := ["value"]) fun _ _ _ _ _ _ us hl => match us, hl with | [_], _ => rfl
  have F7 := fun_mk (st := t_p_shortest) l7 c7 k7
  have b7 := F7.binds (ps := ["lives"]) fun _ _ _ _ _ _ us hl => match us, hl with | [_], _ => rfl
  have F8 := fun_mk (st := t_p_Rule_init) l8 c8 k8
  have F9 := fun_mk (st := t_p_Rule_of) l9 c9 k9
  have b9 := F9.binds (ps := ["cls", "lives"]) fun _ _ _ _ _ _ us hl => match us, hl with | [_, _], _ => rfl
  have F10 := fun_mk (st := t_q_two) l10 c10 k10
  have b10 := F10.binds (ps := ["_law_index"]) fun _ _ _ _ _ _ us hl => match us, hl with | [_], _ => rfl
  have F11 := fun_mk (st := t_q_count) l11 c11 k11
  have b11 := F11.binds (ps := ["_law_lives_here", "_law_time"]) fun _ _ _ _ _ _ us hl => match us, hl with | [_, _], _ => rfl
  have F12 := fun_mk (st := t_q_takev) l12 c12 k12
  have b12 := F12.binds (ps := ["_law_pot_here", "_law_many"]) fun _ _ _ _ _ _ us hl => match us, hl with | [_, _], _ => rfl
  have F13 := fun_mk (st := t_q_greatest) l13 c13 k13
  have b13 := F13.binds (ps := ["_law_lives_here"]) fun _ _ _ _ _ _ us hl => match us, hl with | [_], _ => rfl
  have F14 := fun_mk (st := t_q_shortv) l14 c14 k14
  have b14 := F14.binds (ps := ["_law_lives_here"]) fun _ _ _ _ _ _ us hl => match us, hl with | [_], _ => rfl
  have F15 := fun_mk (st := t_q_rule_right) l15 c15 k15
  have b15 := F15.binds (ps := ["_law_pot_here", "_law_lives_here", "_law_is_small"]) fun _ _ _ _ _ _ us hl => match us, hl with | [_, _, _], _ => rfl
  have F16 := fun_mk (st := t_q_ended) l16 c16 k16
  have b16 := F16.binds (ps := ["_law_pot_here", "_law_lives_here"]) fun _ _ _ _ _ _ us hl => match us, hl with | [_, _], _ => rfl
  have F17 := fun_mk (st := t_q_of) l17 c17 k17
  have b17 := F17.binds (ps := ["_law_pot_here", "_law_some"]) fun _ _ _ _ _ _ us hl => match us, hl with | [_, _], _ => rfl
  have F18 := fun_mk (st := t_q_lives) l18 c18 k18
  have b18 := F18.binds (ps := ["_law_pot_here", "_law_many", "_law_great"]) fun _ _ _ _ _ _ us hl => match us, hl with | [_, _, _], _ => rfl
  have F19 := fun_mk (st := t_q_low_lives) l19 c19 k19
  have b19 := F19.binds (ps := ["_law_pot_here"]) fun _ _ _ _ _ _ us hl => match us, hl with | [_], _ => rfl
  have F20 := fun_mk (st := t_q_right) l20 c20 k20
  have b20 := F20.binds (ps := ["_law_pot_here"]) fun _ _ _ _ _ _ us hl => match us, hl with | [_], _ => rfl
  have F21 := fun_mk (st := t_q_law) l21 c21 k21
  have b21 := F21.binds (ps := ["_law_script"]) fun _ _ _ _ _ _ us hl => match us, hl with | [_], _ => rfl
  have F22 := fun_mk (st := t_p_Rule_lives) l22 c22 k22
  have b22 := F22.binds (ps := ["self"]) fun _ _ _ _ _ _ us hl => match us, hl with | [_], _ => rfl
  let W0 : Wd := ⟨K, fun c => match c with | 0 => C0 | _ => C1, fun _ => "held_lives", fun _ => 0, fun _ => 0, fun _ => ""⟩
  let T : Txt l.prog W0 mg := {
    g0 := PySem.W.mg_of X G aC0
    c0 := ⟨⟨pg0, hd0, po0, sa0⟩, rd0, ga0⟩
    g1 := PySem.W.mg_of X G aC1
    c1 := ⟨⟨pg1, hd1, po1, sa1⟩, rd1, ga1⟩
    q_potv := ⟨_, _, F0, PySem.W.mg_of X G a0, b0⟩
    p_size_of := ⟨_, _, F1, PySem.W.mg_of X G a1, b1⟩
    p_count_at := ⟨_, _, F2, PySem.W.mg_of X G a2, b2⟩
    p_one_bit_more := ⟨_, _, F3, PySem.W.mg_of X G a3, b3⟩
    p_most := ⟨_, _, F4, PySem.W.mg_of X G a4, b4⟩
    p_is_integer := ⟨_, _, F5, PySem.W.mg_of X G a5, b5, e5⟩
    p_Rule_are_lives := ⟨_, _, F6⟩
    p_p_Rule_are_lives := p6
    r_p_Rule_are_lives := ⟨a6, ⟨_, r6⟩, k6⟩
    b_p_Rule_are_lives := b6
    p_shortest := ⟨_, _, F7, PySem.W.mg_of X G a7, b7⟩
    p_Rule_init := ⟨_, _, F8⟩
    m_p_Rule_init := ⟨mk0, a8, i8, kc0⟩
    h_p_Rule_init := StX.bind_star1 (B := fun us => bindArgs _ ⟨us, []⟩) (fun _ => rfl) (fun _ _ _ => rfl)
    p_Rule_of := ⟨_, _, F9⟩
    p_p_Rule_of := p9
    r_p_Rule_of := ⟨a9, ⟨_, r9⟩, i9⟩
    b_p_Rule_of := b9
    q_two := ⟨_, _, F10, PySem.W.mg_of X G a10, b10⟩
    q_count := ⟨_, _, F11, PySem.W.mg_of X G a11, b11⟩
    q_takev := ⟨_, _, F12, PySem.W.mg_of X G a12, b12⟩
    q_greatest := ⟨_, _, F13, PySem.W.mg_of X G a13, b13⟩
    q_shortv := ⟨_, _, F14, PySem.W.mg_of X G a14, b14⟩
    q_rule_right := ⟨_, _, F15, PySem.W.mg_of X G a15, b15⟩
    q_ended := ⟨_, _, F16, PySem.W.mg_of X G a16, b16⟩
    q_of := ⟨_, _, F17, PySem.W.mg_of X G a17, b17⟩
    q_lives := ⟨_, _, F18, PySem.W.mg_of X G a18, b18⟩
    q_low_lives := ⟨_, _, F19, PySem.W.mg_of X G a19, b19⟩
    q_right := ⟨_, _, F20, PySem.W.mg_of X G a20, b20⟩
    q_law := ⟨_, _, F21, PySem.W.mg_of X G a21, b21⟩
    p_Rule_lives := ⟨_, _, F22⟩
    q0_p_Rule_lives := ⟨p22, a22_0, s22, t22, ⟨_, r22⟩⟩
    q1_p_Rule_lives := ⟨p22, a22_1, s22, t22, ⟨_, r22⟩⟩
    b_p_Rule_lives := b22
    k_MOST_COUNT := ⟨_, PySem.W.mg_of X G x_MOST_COUNT⟩
    k_MOST_LIFE := ⟨_, PySem.W.mg_of X G x_MOST_LIFE⟩
    n_abs := PySem.W.mg_none_of X G z_abs
    n_all := PySem.W.mg_none_of X G z_all
    n_bool := PySem.W.mg_none_of X G z_bool
    n_enumerate := PySem.W.mg_none_of X G z_enumerate
    n_int := PySem.W.mg_none_of X G z_int
    n_isinstance := PySem.W.mg_none_of X G z_isinstance
    n_len := PySem.W.mg_none_of X G z_len
    n_max := PySem.W.mg_none_of X G z_max
    n_min := PySem.W.mg_none_of X G z_min
    n_range := PySem.W.mg_none_of X G z_range
    n_repr := PySem.W.mg_none_of X G z_repr
    n_tuple := PySem.W.mg_none_of X G z_tuple
    n_zip := PySem.W.mg_none_of X G z_zip
    fld := ⟨fun c hc => match c, hc with | 0, _ => ⟨pg0, hd0, po0, sa0⟩ | 1, _ => ⟨pg1, hd1, po1, sa1⟩, fun c hc => match c, hc with | 0, _ => nh0 | 1, _ => nh1, fun c hc => match c, hc with | 0, _ => rfl | 1, _ => rfl⟩
  }
  exact ⟨W0, _, X, fun s v => .of_eq rfl, fun base _ _ => ok_q_law (W := W0) T⟩

end LW
open PySem PySem.W PyProof.Rows
set_option maxHeartbeats 0 in
theorem PySem.Challenge.cw_rulerkeep_k18_greatest_counts_holds : PySem.Challenge.rw_rulerkeep_k18_greatest_counts.Holds := by
  w_on; o_law; k_head; (case hw => w_witness2)
  k_fill
  refine Ev.law_end (l := PySem.Challenge.rw_rulerkeep_k18_greatest_counts) (n := 63) (k := 8) (x := "_law_script") (CX := L2.CX0) (fs := LW.q_law) rfl (by decide) rfl ⟨rfl, by decide, by decide⟩ ?F LW.law_true (fun _ _ _ _ h => h)
  case F =>
    intro w mg fa h Y G hmg
    refine' LW.all_mk (PySem.W.kIn_of Y) G hmg ?aC0 ?pg0 ?hd0 ?po0 ?sa0 ?rd0 ?ga0 ?nh0 ?mk0 ?kc0 ?aC1 ?pg1 ?hd1 ?po1 ?sa1 ?rd1 ?ga1 ?nh1 ?a0 ?l0 ?c0 ?k0 ?a1 ?l1 ?c1 ?k1 ?a2 ?l2 ?c2 ?k2 ?a3 ?l3 ?c3 ?k3 ?a4 ?l4 ?c4 ?k4 ?a5 ?l5 ?t5 ?c5 ?k5 ?a6 ?r6 ?l6 ?c6 ?k6 ?a7 ?l7 ?c7 ?k7 ?a8 ?i8 ?l8 ?c8 ?k8 ?a9 ?r9 ?i9 ?l9 ?c9 ?k9 ?a10 ?l10 ?c10 ?k10 ?a11 ?l11 ?c11 ?k11 ?a12 ?l12 ?c12 ?k12 ?a13 ?l13 ?c13 ?k13 ?a14 ?l14 ?c14 ?k14 ?a15 ?l15 ?c15 ?k15 ?a16 ?l16 ?c16 ?k16 ?a17 ?l17 ?c17 ?k17 ?a18 ?l18 ?c18 ?k18 ?a19 ?l19 ?c19 ?k19 ?a20 ?l20 ?c20 ?k20 ?a21 ?l21 ?c21 ?k21 ?a22_0 ?a22_1 ?s22 ?t22 ?r22 ?l22 ?c22 ?k22 ?x_MOST_COUNT ?x_MOST_LIFE ?z_abs ?z_all ?z_bool ?z_enumerate ?z_int ?z_isinstance ?z_len ?z_max ?z_min ?z_range ?z_repr ?z_tuple ?z_zip
    (case aC0 => k_is)
    (case pg0 => k_is)
    (case hd0 => k_is)
    (case po0 => k_is)
    (case sa0 => k_is)
    (case rd0 => k_is)
    (case ga0 => k_is)
    (case nh0 => k_is)
    (case mk0 => k_is)
    (case kc0 => k_is)
    (case aC1 => k_is)
    (case pg1 => k_is)
    (case hd1 => k_is)
    (case po1 => k_is)
    (case sa1 => k_is)
    (case rd1 => k_is)
    (case ga1 => k_is)
    (case nh1 => k_is)
    (case a0 => k_is)
    (case l0 => k_is)
    (case c0 => k_is)
    (case k0 => k_is)
    (case a1 => k_is)
    (case l1 => k_is)
    (case c1 => k_is)
    (case k1 => k_is)
    (case a2 => k_is)
    (case l2 => k_is)
    (case c2 => k_is)
    (case k2 => k_is)
    (case a3 => k_is)
    (case l3 => k_is)
    (case c3 => k_is)
    (case k3 => k_is)
    (case a4 => k_is)
    (case l4 => k_is)
    (case c4 => k_is)
    (case k4 => k_is)
    (case a5 => k_is)
    (case l5 => k_is)
    (case t5 => k_is)
    (case c5 => k_is)
    (case k5 => k_is)
    (case a6 => k_is)
    (case r6 => k_is)
    (case l6 => k_is)
    (case c6 => k_is)
    (case k6 => k_is)
    (case a7 => k_is)
    (case l7 => k_is)
    (case c7 => k_is)
    (case k7 => k_is)
    (case a8 => k_is)
    (case i8 => k_is)
    (case l8 => k_is)
    (case c8 => k_is)
    (case k8 => k_is)
    (case a9 => k_is)
    (case r9 => k_is)
    (case i9 => k_is)
    (case l9 => k_is)
    (case c9 => k_is)
    (case k9 => k_is)
    (case a10 => k_is)
    (case l10 => k_is)
    (case c10 => k_is)
    (case k10 => k_is)
    (case a11 => k_is)
    (case l11 => k_is)
    (case c11 => k_is)
    (case k11 => k_is)
    (case a12 => k_is)
    (case l12 => k_is)
    (case c12 => k_is)
    (case k12 => k_is)
    (case a13 => k_is)
    (case l13 => k_is)
    (case c13 => k_is)
    (case k13 => k_is)
    (case a14 => k_is)
    (case l14 => k_is)
    (case c14 => k_is)
    (case k14 => k_is)
    (case a15 => k_is)
    (case l15 => k_is)
    (case c15 => k_is)
    (case k15 => k_is)
    (case a16 => k_is)
    (case l16 => k_is)
    (case c16 => k_is)
    (case k16 => k_is)
    (case a17 => k_is)
    (case l17 => k_is)
    (case c17 => k_is)
    (case k17 => k_is)
    (case a18 => k_is)
    (case l18 => k_is)
    (case c18 => k_is)
    (case k18 => k_is)
    (case a19 => k_is)
    (case l19 => k_is)
    (case c19 => k_is)
    (case k19 => k_is)
    (case a20 => k_is)
    (case l20 => k_is)
    (case c20 => k_is)
    (case k20 => k_is)
    (case a21 => k_is)
    (case l21 => k_is)
    (case c21 => k_is)
    (case k21 => k_is)
    (case a22_0 => k_is)
    (case a22_1 => k_is)
    (case s22 => k_is)
    (case t22 => k_is)
    (case r22 => k_is)
    (case l22 => k_is)
    (case c22 => k_is)
    (case k22 => k_is)
    (case x_MOST_COUNT => k_is)
    (case x_MOST_LIFE => k_is)
    (case z_abs => k_is)
    (case z_all => k_is)
    (case z_bool => k_is)
    (case z_enumerate => k_is)
    (case z_int => k_is)
    (case z_isinstance => k_is)
    (case z_len => k_is)
    (case z_max => k_is)
    (case z_min => k_is)
    (case z_range => k_is)
    (case z_repr => k_is)
    (case z_tuple => k_is)
    (case z_zip => k_is)
